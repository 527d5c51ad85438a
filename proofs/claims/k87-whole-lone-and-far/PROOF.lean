import PyProof.Rows.All
import Wide.All
import OpenK.AllK
import Wide.FinOn
import HandS.ForMost
import HandS.SortInts
import HandS.Style
import HandS.IsInst
import HandS.Flow
import HandS.Conv
import HandS.Codes
import PyProof.Draws
import PyProof.EnumMake
import HandS.Walk
import HandS.Strs
import HandS.More
import HandS.Text
import HandS.Small
import HandS.SortKw
import KE.SortKeyed
import HandS.DictComp
import HandS.Zip
import HandS.Finally
import HandS.Exc
import HandS.ExcOwn
import HandS.ExcInit
import HandS.ExcIs
import HandS.TryOnly
import HandS.TryMany
import HandS.WordsExc
import HandS.Defaults
import HandS.CallSlots
import HandS.DeepEq
import HandS.Dict
import PyProof.TupleKey
import PyProof.Rows.TupTab
import PyProof.DictRoadsH
import HandS.SetKeys
import HandS.List
import HandS.TupAny
import HandS.Wide
import KE.OsArith
import PyProof.ReprRoads
import HandS.Ends
import KE.KLam
import KE.KNestM
import HandS.Lambda
import HandS.Nested
import HandS.EndTab
import HandS.Deep
import PySem.Challenge.RW_watchedways_k87_whole_lone_and_far
set_option Elab.async false
set_option linter.all false
set_option maxRecDepth 100000
set_option maxHeartbeats 4000000
/-! Readings by their heads: one lemma a combinator, so that a reading is walked by its own shape. -/
namespace Rd
open PySem PySem.Spec PyProof.Rows L2
variable {X : Cx} {D : Ends} {σ : L2.St} {H : Hp} {K : PySem.W.Frag}
/-- a new object is laid -/
def NewQ (o : HO) (Q : VK) (H : Hp) : Prop := ∀ p, H p = none → Q (.ref p) (upd H p o)
theorem new {o : HO} {Q : VK} (h : ∀ (p : Addr) (G : Hp), H p = none → G p = some o → Same H G → Q (.ref p) G) : NewQ o Q H :=
  fun p hp => h p _ hp upd_same fun b u e => by rw [upd_ne (ne_of_none e hp)]; exact e
theorem seq {t u : TS} (h : t { D with nx := u D } σ H) : tSeq t u D σ H := h
theorem cut {t u : TS} (Mid : L2.St → Hp → Prop) (h : t { D with nx := Mid } σ H) (h2 : ∀ σ' H', Mid σ' H' → u D σ' H') : C8.tCut t u D σ H := ⟨Mid, h, h2⟩
theorem nxt (h : D.nx σ H) : tNext D σ H := h
theorem asg {te : TE} {g : TG} (h : te σ H fun x H1 => g x σ H1 D.nx) : tAsg te g D σ H := h
theorem name {i : Nat} {v : V} {Q : L2.St → Hp → Prop} (h : Q (σ.set i (some v)) H) : gName i v σ H Q := h
theorem ret {te : TE} (h : te σ H D.rt) : tRet te D σ H := h
theorem retN (h : D.rt .non H) : tRetN D σ H := h
theorem drop {te : TE} (h : te σ H fun _ H1 => D.nx σ H1) : tDrop te D σ H := h
theorem ifS {c : TT} {t u : TS} (h : c σ H fun b H1 => if b = true then t D σ H1 else u D σ H1) : tIfS c t u D σ H := h
theorem brk (h : D.bk σ H) : tBreak D σ H := h
theorem cont (h : D.ct σ H) : tCont D σ H := h
theorem var {i : Nat} {v : V} {Q : VK} (e : σ[i]? = some (some v)) (h : Q v H) : tVar i σ H Q := ⟨v, e, h⟩
theorem con {v : V} {Q : VK} (h : Q v H) : tC v σ H Q := h
theorem op {r : R2} {ta tb : TE} {Q : VK} (h : ta σ H fun x H1 => tb σ H1 fun y H2 => r x y H2 Q) : tOp r ta tb σ H Q := h
theorem un {r : V → Hp → VK → Prop} {ta : TE} {Q : VK} (h : ta σ H fun x H1 => r x H1 Q) : tUn r ta σ H Q := h
theorem test {t : TE} {Q : Bool → Hp → Prop} (h : t σ H fun x H' => ∃ k, x = .bl k ∧ Q k H') : tTest t σ H Q := h
theorem tstB {t : TE} {Q : Bool → Hp → Prop} (h : t σ H fun x H' => ∃ k, x = .bl k ∧ Q k H') : tB t σ H Q := h
theorem bl {k : Bool} {Q : Bool → Hp → Prop} (h : Q k H) : ∃ k', V.bl k = .bl k' ∧ Q k' H := ⟨k, rfl, h⟩
theorem and {t u : TT} {Q : Bool → Hp → Prop} (h : t σ H fun c H1 => if c = true then u σ H1 Q else Q false H1) : tAnd t u σ H Q := h
theorem or {t u : TT} {Q : Bool → Hp → Prop} (h : t σ H fun c H1 => if c = true then Q true H1 else u σ H1 Q) : tOr t u σ H Q := h
theorem not {t : TT} {Q : Bool → Hp → Prop} (h : t σ H fun c H1 => Q (!c) H1) : tNot t σ H Q := h
theorem andV {ta tb : TE} {Q : VK} (h : ta σ H fun x H1 => ∃ c, x = .bl c ∧ if c = true then tb σ H1 Q else Q (.bl false) H1) : tAndV ta tb σ H Q := h
theorem orV {ta tb : TE} {Q : VK} (h : ta σ H fun x H1 => ∃ c, x = .bl c ∧ if c = true then Q (.bl true) H1 else tb σ H1 Q) : tOrV ta tb σ H Q := h
theorem notV {ta : TE} {Q : VK} (h : ta σ H fun x H1 => ∃ c, x = .bl c ∧ Q (.bl (!c)) H1) : tNotV ta σ H Q := h
theorem ifE {t : TT} {ta tb : TE} {Q : VK} (h : t σ H fun c H1 => if c = true then ta σ H1 Q else tb σ H1 Q) : tIf t ta tb σ H Q := h
theorem nil {Q : List V → Hp → Prop} (h : Q [] H) : tNil σ H Q := h
theorem cons {ta : TE} {tr : TA} {Q : List V → Hp → Prop} (h : ta σ H fun x H1 => tr σ H1 fun xs H2 => Q (x :: xs) H2) : tCons ta tr σ H Q := h
theorem tup {t : TA} {Q : VK} (h : t σ H fun xs H1 => xs.length ≤ sizeLine ∧ NewQ (.tup xs) Q H1) : tTup t σ H Q := h
theorem lst {t : TA} {Q : VK} (h : t σ H fun xs H1 => xs.length ≤ sizeLine ∧ NewQ (.lst xs) Q H1) : tLst t σ H Q := h
theorem cb {r : List V → Hp → VK → Prop} {t : TA} {Q : VK} (h : t σ H fun vs H1 => r vs H1 Q) : tCB r t σ H Q := h
theorem call {sp : Sp} {dvs : List V} {E : XK} {t : TA} {Q : VK} (h : t σ H fun vs H1 => sp (vs ++ dvs) H1 Q E) : tCall sp dvs E t σ H Q := h
theorem chain {r r' : R2} {ta tb tc : TE} {Q : VK} (h : ta σ H fun x H1 => tb σ H1 fun y H2 => r x y H2 fun z H3 => ∃ k, z = .bl k ∧ (if k = true then tc σ H3 fun w' H4 => r' y w' H4 Q else Q (.bl false) H3)) : tChain r r' ta tb tc σ H Q := h
theorem blE {k : Bool} {P : Bool → Prop} (h : P k) : ∃ k', V.bl k = .bl k' ∧ P k' := ⟨k, rfl, h⟩
theorem i0 {g : Int → Int → V} {i j : Int} {Q : VK} (h : Q (g i j) H) : rI0 g (.int i) (.int j) H Q := ⟨i, j, rfl, rfl, h⟩
theorem iC {C : Int → Int → Prop} {g : Int → Int → V} {i j : Int} {Q : VK} (c : C i j) (h : Q (g i j) H) : rI C g (.int i) (.int j) H Q := ⟨i, j, rfl, rfl, c, h⟩
theorem u1 {g : Int → V} {i : Int} {Q : VK} (h : Q (g i) H) : rU g (.int i) H Q := ⟨i, rfl, h⟩
theorem eqI {i j : Int} {Q : VK} (h : Q (.bl (decide (i = j))) H) : rEq (.int i) (.int j) H Q := ⟨rfl, by rw [show decide (V.int i = V.int j) = decide (i = j) by simp]; exact h⟩
theorem neI {i j : Int} {Q : VK} (h : Q (.bl (!decide (i = j))) H) : rNe (.int i) (.int j) H Q := ⟨rfl, by rw [show decide (V.int i = V.int j) = decide (i = j) by simp]; exact h⟩
theorem eqB {i j : Bool} {Q : VK} (h : Q (.bl (i == j)) H) : rEq (.bl i) (.bl j) H Q := ⟨rfl, by rw [dec_bl]; exact h⟩
theorem neB {i j : Bool} {Q : VK} (h : Q (.bl (i != j)) H) : rNe (.bl i) (.bl j) H Q := ⟨rfl, by rw [dec_bl]; exact h⟩
theorem eqS {i j : Str} {Q : VK} (h : Q (.bl (decide (i = j))) H) : rEq (.str i) (.str j) H Q := ⟨rfl, by rw [show decide (V.str i = V.str j) = decide (i = j) by simp]; exact h⟩
theorem neS {i j : Str} {Q : VK} (h : Q (.bl (!decide (i = j))) H) : rNe (.str i) (.str j) H Q := ⟨rfl, by rw [show decide (V.str i = V.str j) = decide (i = j) by simp]; exact h⟩
theorem iteb {c A B : Prop} [Decidable c] (h : if c then A else B) : if decide c = true then A else B := by
  by_cases q : c
  · rw [if_pos q] at h; rw [if_pos (decide_eq_true q)]; exact h
  · rw [if_neg q] at h; rw [if_neg (by simpa using q)]; exact h
theorem iten {c A B : Prop} [Decidable c] (h : if c then B else A) : if (!decide c) = true then A else B := by
  by_cases q : c
  · rw [if_pos q] at h; rw [if_neg (by simpa using q)]; exact h
  · rw [if_neg q] at h; rw [if_pos (by simpa using q)]; exact h
theorem itbn {b : Bool} {A B : Prop} (h : if b = true then B else A) : if (!b) = true then A else B := by
  cases b with
  | true => rw [if_neg (by decide)]; rw [if_pos rfl] at h; exact h
  | false => rw [if_pos (by rfl : (!false) = true)]; rw [if_neg (by decide)] at h; exact h
theorem a1 {a : Int} {P : Int → Prop} (h : P a) : ∃ i, [V.int a] = [V.int i] ∧ P i := ⟨a, rfl, h⟩
theorem a2 {a b : Int} {P : Int → Int → Prop} (h : P a b) : ∃ i j, [V.int a, V.int b] = [V.int i, V.int j] ∧ P i j := ⟨a, b, rfl, h⟩
theorem v2 {a b : V} {P : V → V → Prop} (h : P a b) : ∃ i j, [a, b] = [i, j] ∧ P i j := ⟨a, b, rfl, h⟩
theorem int1 {a : Int} {P : Int → Prop} {R : Prop} (h : P a) : (∃ i, [V.int a] = [V.int i] ∧ P i) ∨ R := .inl ⟨a, rfl, h⟩
theorem par {i j : Nat} {ta : TA} (h : ta σ H fun vs H1 => ∃ v w, vs = [v, w] ∧ D.nx ((σ.set i (some v)).set j (some w)) H1) : tPar i j ta D σ H := h
theorem sub {to ti : TE} {t : TSet} {v : V} {Q : L2.St → Hp → Prop} (h : to σ H fun o H1 => ti σ H1 fun i H2 => t o i v H2 fun H3 => Q σ H3) : gSub to ti t v σ H Q := h
theorem forS {wi : TI} {g : TG} {tb : TS} (h : wi σ H fun J H1 => ∃ W : Nat → Nat → L2.St → Hp → Prop, (∃ m, W 0 m σ H1) ∧ ∀ i m σ H, W i m σ H →
  (J.stop i H ∧ D.nx σ H) ∨ (J.go i H ∧ ∃ N : L2.St → Hp → Prop, (∀ σ' H', N σ' H' → ∃ m', m' < m ∧ W (i + 1) m' σ' H') ∧ ∀ x H', J.yld i H x H' → g x σ H' fun σ2 H2 => tb { D with nx := N, ct := N, bk := D.nx } σ2 H2)) : tFor wi g tb D σ H := h
theorem iter {tl : TE} {R : It → Hp → Prop} (h : tl σ H fun x H1 => ∃ a, x = .ref a ∧ (∃ xs, SqL K H1 a xs) ∧ R (Itl K a) H1) : iList K tl σ H R := h
theorem iterT {tl : TE} {R : It → Hp → Prop} (h : tl σ H fun x H1 => ∃ a, x = .ref a ∧ (∃ xs, SqT K H1 a xs) ∧ R (Itt K a) H1) : iTup K tl σ H R := h
theorem rng1 {ta : TA} {R : It → Hp → Prop} (h : ta σ H fun vs H1 => ∃ j : Int, vs = [.int j] ∧ -(2 ^ 62) ≤ j ∧ j < 2 ^ 62 ∧ R (Itr 0 j.toNat) H1) : iRng1 ta σ H R := h
theorem refE {a : Addr} {P : Addr → Prop} (h : P a) : ∃ b, V.ref a = .ref b ∧ P b := ⟨a, rfl, h⟩
theorem aug {i : Nat} {te : TE} {ti : TIp} {x : V} (e : σ[i]? = some (some x)) (h : te σ H fun y H1 => ti x y H1 fun z H2 => D.nx (σ.set i (some z)) H2) : tAug i te ti D σ H := ⟨x, e, h⟩
theorem ipi {f : Int → Int → Int} {i j : Int} {Q : VK} (h : Q (.int (f i j)) H) : ipI f (.int i) (.int j) H Q := ⟨i, j, rfl, rfl, h⟩
theorem whl {c : TT} {tb : TS} (W : Nat → L2.St → Hp → Prop) (h0 : ∃ m, W m σ H) (hs : ∀ m σ H, W m σ H → c σ H fun b H1 => if b = true then ∃ N : L2.St → Hp → Prop, (∀ σ' H', N σ' H' → ∃ m', m' < m ∧ W m' σ' H') ∧ tb { D with nx := N, ct := N, bk := D.nx } σ H1 else D.nx σ H1) : tWhile c tb D σ H := ⟨W, h0, hs⟩
theorem whN {m : Nat} {W : Nat → L2.St → Hp → Prop} {P : (L2.St → Hp → Prop) → Prop} (h : P (fun σ' H' => ∃ m', m' < m ∧ W m' σ' H')) : ∃ N, (∀ σ' H', N σ' H' → ∃ m', m' < m ∧ W m' σ' H') ∧ P N := ⟨_, fun _ _ h => h, h⟩
/-- an item of a list at a place -/
theorem ixL {p : Addr} {xs : List V} {i : Int} {v : V} {Q : VK} (hp : SqL K H p xs) (e : atI xs i = some v) (h : Q v H) : rIxL K (.ref p) (.int i) H Q := ⟨p, xs, i, v, rfl, rfl, hp, e, h⟩
theorem ixT {p : Addr} {xs : List V} {i : Int} {v : V} {Q : VK} (hp : SqT K H p xs) (e : atI xs i = some v) (h : Q v H) : rIxT K (.ref p) (.int i) H Q := ⟨p, xs, i, v, rfl, rfl, hp, e, h⟩
theorem setL {p : Addr} {xs : List V} {k : Int} {j : Nat} {v : V} {Q : Hp → Prop} (hp : H p = some (.lst xs)) (e : ixN xs.length k = some j) (h : Q (upd H p (.lst (xs.set j v)))) : rSetL (.ref p) (.int k) v H Q := ⟨p, xs, k, j, rfl, rfl, hp, e, h⟩
/-- a store into a list: behind it a heap G of which this is known -/
theorem setG {p : Addr} {xs ys : List V} {k : Int} {j : Nat} {v : V} {Q : Hp → Prop} (hp : H p = some (.lst xs)) (e : ixN xs.length k = some j) (hy : xs.set j v = ys) (h : ∀ G : Hp, G p = some (.lst ys) → (∀ b, b ≠ p → G b = H b) → Q G) : rSetL (.ref p) (.int k) v H Q :=
  ⟨p, xs, k, j, rfl, rfl, hp, e, hy ▸ h _ upd_same fun b hb => upd_ne hb⟩
/-! ### calls of built-ins and methods, by name -/
def nLen (K : PySem.W.Frag) : List V → Hp → VK → Prop := fun xs H Q => ∃ p ys, xs = [.ref p] ∧ (SqL K H p ys ∨ SqT K H p ys) ∧ Q (.int ys.length) H
theorem c_len : CallR X (.builtin "len") (nLen X.K) := call_len_seq
theorem len {p : Addr} {ys : List V} {Q : VK} (hp : SqL K H p ys ∨ SqT K H p ys) (h : Q (.int ys.length) H) : nLen K [.ref p] H Q := ⟨p, ys, rfl, hp, h⟩
def nLenS : List V → Hp → VK → Prop := fun xs H Q => ∃ z : Str, xs = [.str z] ∧ z.length ≤ sizeLine ∧ Q (.int z.length) H
theorem c_lenS : CallR X (.builtin "len") nLenS := call_len_str
theorem lenStr {z : Str} {Q : VK} (hz : z.length ≤ sizeLine) (h : Q (.int z.length) H) : nLenS [.str z] H Q := ⟨z, rfl, hz, h⟩
def nListOf (K : PySem.W.Frag) : List V → Hp → VK → Prop := fun xs H Q => ∃ p ys, xs = [.ref p] ∧ (SqL K H p ys ∨ SqT K H p ys) ∧ NewQ (.lst ys) Q H
theorem c_listOf : CallR X (.type "list") (nListOf X.K) := call_list_of
theorem listOf {p : Addr} {ys : List V} {Q : VK} (hp : SqL K H p ys ∨ SqT K H p ys) (h : NewQ (.lst ys) Q H) : nListOf K [.ref p] H Q := ⟨p, ys, rfl, hp, h⟩
def nTupOf (K : PySem.W.Frag) : List V → Hp → VK → Prop := fun xs H Q => ∃ p ys, xs = [.ref p] ∧ ((SqL K H p ys ∧ NewQ (.tup ys) Q H) ∨ (SqT K H p ys ∧ Q (.ref p) H))
theorem c_tupOf : CallR X (.type "tuple") (nTupOf X.K) := call_tuple_of
theorem tupOf {p : Addr} {ys : List V} {Q : VK} (hp : SqL K H p ys) (h : NewQ (.tup ys) Q H) : nTupOf K [.ref p] H Q := ⟨p, ys, rfl, .inl ⟨hp, h⟩⟩
def nInt : List V → Hp → VK → Prop := fun xs H Q => (∃ i, xs = [.int i] ∧ Q (.int i) H) ∨ ∃ k, xs = [.bl k] ∧ Q (.int (if k then 1 else 0)) H
theorem c_int : CallR X (.type "int") nInt := call_int1
theorem int {i : Int} {Q : VK} (h : Q (.int i) H) : nInt [.int i] H Q := .inl ⟨i, rfl, h⟩
theorem intB {k : Bool} {Q : VK} (h : Q (.int (if k then 1 else 0)) H) : nInt [.bl k] H Q := .inr ⟨k, rfl, h⟩
def nAbs : List V → Hp → VK → Prop := fun xs H Q => ∃ i, xs = [.int i] ∧ Q (.int (if i < 0 then -i else i)) H
theorem c_abs : CallR X (.builtin "abs") nAbs := call_abs
theorem abs {i : Int} {Q : VK} (h : Q (.int (i.natAbs : Int)) H) : nAbs [.int i] H Q := ⟨i, rfl, by rw [show (if i < 0 then -i else i) = (i.natAbs : Int) by split <;> omega]; exact h⟩
def nMax2 : List V → Hp → VK → Prop := fun xs H Q => ∃ i j, xs = [.int i, .int j] ∧ Q (.int (if j > i then j else i)) H
theorem c_max2 (hc : X.calm = true) : CallR X (.builtin "max") nMax2 := call_max2 hc
theorem max2 {i j : Int} {Q : VK} (h : Q (.int (max i j)) H) : nMax2 [.int i, .int j] H Q := ⟨i, j, rfl, by rw [show (if j > i then j else i) = max i j by rw [Int.max_def]; split <;> split <;> omega]; exact h⟩
def nMin2 : List V → Hp → VK → Prop := fun xs H Q => ∃ i j, xs = [.int i, .int j] ∧ Q (.int (if j < i then j else i)) H
theorem c_min2 (hc : X.calm = true) : CallR X (.builtin "min") nMin2 := call_min2 hc
theorem min2 {i j : Int} {Q : VK} (h : Q (.int (min i j)) H) : nMin2 [.int i, .int j] H Q := ⟨i, j, rfl, by rw [show (if j < i then j else i) = min i j by rw [Int.min_def]; split <;> split <;> omega]; exact h⟩
theorem bm {T : String} {r : V → List V → Hp → VK → Prop} {to : TE} {t : TA} {Q : VK} (h : to σ H fun x H1 => tyV K T x H1 ∧ t σ H1 fun xs H2 => r x xs H2 Q) : tBM K T r to t σ H Q := h
theorem bm0 {T : String} {r : V → List V → Hp → VK → Prop} {to : TE} {Q : VK} (h : to σ H fun x H1 => tyV K T x H1 ∧ r x [] H1 Q) : tBM0 K T r to σ H Q := h
theorem tyL {a : Addr} {xs : List V} {R : Prop} (h : SqL K H a xs) (r : R) : tyV K "list" (.ref a) H ∧ R := ⟨.inl ⟨rfl, _, h⟩, r⟩
theorem app {l : Addr} {xs : List V} {y : V} {Q : VK} (hp : H l = some (.lst xs)) (hz : xs.length < sizeLine) (h : ∀ G : Hp, G l = some (.lst (xs ++ [y])) → (∀ b, b ≠ l → G b = H b) → Q .non G) : rAppend (.ref l) [y] H Q :=
  ⟨l, xs, y, rfl, rfl, hp, hz, h _ upd_same fun b hb => upd_ne hb⟩
theorem popAt {l : Addr} {xs : List V} {i : Int} {y : V} {Q : VK} (hp : H l = some (.lst xs)) (h0 : 0 ≤ i) (h1 : i < xs.length) (hz : xs.length < 2 ^ 63) (hy : xs[i.toNat]? = some y) (h : ∀ G : Hp, G l = some (.lst (xs.eraseIdx i.toNat)) → (∀ b, b ≠ l → G b = H b) → Q y G) : rPopAt (.ref l) [.int i] H Q :=
  ⟨l, xs, i, i.toNat, y, rfl, rfl, hp, by omega, by omega, by unfold seqIndex?; rw [if_pos (by simp; omega)] <;> simp <;> omega, hy, h _ upd_same fun b hb => upd_ne hb⟩
theorem sl {r : V → Option Int → Option Int → Hp → VK → Prop} {te : TE} {tl th : TO} {Q : VK} (h : te σ H fun x H1 => tl σ H1 fun l H2 => th σ H2 fun u H3 => r x l u H3 Q) : tSl r te tl th σ H Q := h
theorem slL {a : Addr} {xs : List V} {lo hi : Option Int} {Q : VK} (hp : SqL K H a xs) (h : NewQ (.lst (cutV xs lo hi)) Q H) : rSlL K (.ref a) lo hi H Q := ⟨a, xs, rfl, hp, h⟩
theorem slS {z : Str} {lo hi : Option Int} {Q : VK} (hz : z.length ≤ sizeLine) (h : Q (.str (cutS z lo hi)) H) : rSlS (.str z) lo hi H Q := ⟨z, rfl, hz, h⟩
theorem cat {l b : Addr} {xs zs : List V} {Q : VK} (h1 : H l = some (.lst xs)) (h2 : H b = some (.lst zs)) (hz : xs.length + zs.length ≤ sizeLine) (h : NewQ (.lst (xs ++ zs)) Q H) : rCat (.ref l) (.ref b) H Q := ⟨l, b, xs, zs, rfl, rfl, h1, h2, hz, h⟩
theorem rep {l : Addr} {xs : List V} {k : Int} {Q : VK} (h1 : H l = some (.lst xs)) (h0 : -(2 ^ 63) ≤ k) (hk : k < 2 ^ 63) (hz : xs.length * k.toNat ≤ sizeLine) (h : NewQ (.lst (List.replicate k.toNat xs).flatten) Q H) : rRep (.ref l) (.int k) H Q := ⟨l, k, xs, rfl, rfl, h1, h0, hk, hz, h⟩
theorem revL {te : TE} {Q : VK} (h : te σ H fun x H1 => ∃ a xs, x = .ref a ∧ SqL K H1 a xs ∧ NewQ (.lst xs.reverse) Q H1) : tRevL K te σ H Q := h
theorem refX {a : Addr} {xs : List V} {P : List V → Prop} (h : SqL K H a xs) (q : P xs) : ∃ b ys, V.ref a = .ref b ∧ SqL K H b ys ∧ P ys := ⟨a, xs, rfl, h, q⟩
theorem sum {a : Addr} {ns : List Int} {Q : VK} (hp : SqL K H a (ns.map V.int)) (h : Q (.int ns.sum) H) : rSum K [.ref a] H Q := ⟨a, ns, rfl, hp, h⟩
theorem all {a : Addr} {bs : List Bool} {Q : VK} (hp : SqL K H a (bs.map V.bl)) (h : Q (.bl (bs.all id)) H) : rAll K [.ref a] H Q := ⟨a, bs, rfl, hp, h⟩
theorem any {a : Addr} {bs : List Bool} {Q : VK} (hp : SqL K H a (bs.map V.bl)) (h : Q (.bl (bs.any id)) H) : rAny K [.ref a] H Q := ⟨a, bs, rfl, hp, h⟩
theorem sortedI {a : Addr} {ns : List Int} {Q : VK} (hp : SqL K H a (ns.map V.int)) (h : ∀ (ms : List Int) (p : Addr) (G : Hp), ms.Perm ns → ms.Pairwise (· ≤ ·) → G p = some (.lst (ms.map V.int)) → Same H G → H p = none → Q (.ref p) G) : rSortedI K [.ref a] H Q :=
  ⟨a, ns, rfl, hp, fun ms p h1 h2 h3 => h ms p _ h1 h2 upd_same (fun b u e => by rw [upd_ne (ne_of_none e h3)]; exact e) h3⟩
theorem inS {neg : Bool} {x : V} {p : Addr} {xs : List V} {Q : VK} (hp : SqL K H p xs ∨ SqT K H p xs) (h1 : flatV x = true) (h2 : xs.all flatV = true) (h : Q (.bl (if neg then !inV x xs else inV x xs)) H) : rIn K neg x (.ref p) H Q := ⟨p, xs, rfl, hp, h1, h2, h⟩
theorem part {te : TE} {Q : Option Int → Hp → Prop} (h : te σ H fun x H1 => ∃ i, x = .int i ∧ Q (some i) H1) : tPart te σ H Q := h
theorem noPart {Q : Option Int → Hp → Prop} (h : Q none H) : tNoPart σ H Q := h
theorem poS {te : TE} {Q : Option Int → Hp → Prop} {i : Int} (h : te σ H fun x H1 => ∃ i, x = .int i ∧ Q (some i) H1) : te σ H fun x H1 => ∃ i, x = .int i ∧ Q (some i) H1 := h
theorem tupT {a : Addr} {xs : List V} {n : Nat} {t : TGs} {Q : L2.St → Hp → Prop} (hp : SqT K H a xs) (hn : xs.length = n) (h : t xs σ H Q) : gTup K n t (.ref a) σ H Q := ⟨a, xs, rfl, hp, hn, h⟩
theorem gcons {t : TG} {u : TGs} {v : V} {r : List V} {Q : L2.St → Hp → Prop} (h : t v σ H fun σ' H' => u r σ' H' Q) : gCons t u (v :: r) σ H Q := ⟨v, r, rfl, h⟩
theorem gnil {Q : L2.St → Hp → Prop} (h : Q σ H) : gNil [] σ H Q := ⟨rfl, h⟩
theorem last2 {ms : List Int} (h : 2 ≤ ms.length) : ∃ s b a, ms = s ++ [b, a] := by
  rcases List.eq_nil_or_concat ms with e | ⟨t, a, e⟩
  · subst e; simp at h
  · rcases List.eq_nil_or_concat t with e2 | ⟨s, b, e2⟩
    · subst e2; subst e; simp at h
    · exact ⟨s, b, a, by rw [e, e2]; simp⟩
theorem cut_last2 (s : List Int) (b a : Int) : cutV ((s ++ [b, a]).map V.int) (some (-2)) none = [b, a].map V.int := by
  have e : HT.sIx ((s ++ [b, a]).map V.int).length 0 (some (-2)) = (s.map V.int).length := by
    unfold HT.sIx
    simp
    omega
  have e2 : HT.sIx ((s ++ [b, a]).map V.int).length ((s ++ [b, a]).map V.int).length none = ((s ++ [b, a]).map V.int).length := rfl
  unfold cutV
  rw [e, e2, List.map_append, List.drop_left, List.length_append]
  exact List.take_of_length_le (by simp)
theorem rep_map (k : Nat) (b : Bool) : (List.replicate k [V.bl b]).flatten = (List.replicate k b).map V.bl := by
  induction k with
  | zero => rfl
  | succ k ih => rw [List.replicate_succ, List.flatten_cons, ih, List.replicate_succ]; rfl
theorem map_set {α β : Type} (f : α → β) (l : List α) (i : Nat) (x : α) : (l.map f).set i (f x) = (l.set i x).map f := by rw [List.map_set]
theorem enx {a b c : L2.St → Hp → Prop} {r : VK} (h : a σ H) : (Ends.mk a r b c).nx σ H := h
theorem ebk {a b c : L2.St → Hp → Prop} {r : VK} (h : b σ H) : (Ends.mk a r b c).bk σ H := h
theorem ect {a b c : L2.St → Hp → Prop} {r : VK} (h : c σ H) : (Ends.mk a r b c).ct σ H := h
theorem ert {a b c : L2.St → Hp → Prop} {r : VK} {v : V} (h : r v H) : (Ends.mk a r b c).rt v H := h
theorem intE {i : Int} {P : Int → Prop} (h : P i) : ∃ j, V.int i = .int j ∧ P j := ⟨i, rfl, h⟩
theorem atI_of {α : Type} {xs : List α} {i : Int} {v : α} (h0 : 0 ≤ i) (e : xs[i.toNat]? = some v) : atI xs i = some v := by
  have h := atI_nat e
  rw [show ((i.toNat : Nat) : Int) = i by omega] at h
  exact h
theorem ixN_of {n : Nat} {i : Int} (h0 : 0 ≤ i) (h1 : i < n) : ixN n i = some i.toNat := by
  unfold ixN
  rw [if_pos h0, if_pos h1]
theorem map_int {ns : List Int} {i : Nat} (h : i < ns.length) : (ns.map V.int)[i]? = some (.int ns[i]) := by simp [h]
theorem map_get {ns : List Int} {i : Nat} {x : V} (h : (ns.map V.int)[i]? = some x) : ∃ n, ns[i]? = some n ∧ x = .int n := by
  rw [List.getElem?_map] at h
  cases e : ns[i]? with
  | none => rw [e] at h; cases h
  | some z => rw [e] at h; exact ⟨z, rfl, (Option.some.inj h).symm⟩
theorem take_snoc {α : Type} {l : List α} {i : Nat} {x : α} (h : l[i]? = some x) : l.take (i + 1) = l.take i ++ [x] := by
  rw [List.take_succ, h]
  rfl
theorem upd_at {a : Addr} {o : HO} {b : Addr} (h : b = a) : upd H a o b = some o := by subst h; exact upd_same
/-- all but what stands at a is kept -/
def But (a : Addr) (H H' : Hp) : Prop := ∀ b o, b ≠ a → H b = some o → H' b = some o
theorem But.refl (a : Addr) (H : Hp) : But a H H := fun _ _ _ e => e
theorem But.trans {a : Addr} {H H1 H2 : Hp} (x : But a H H1) (y : But a H1 H2) : But a H H2 := fun b o n e => y b o n (x b o n e)
theorem But.same {a : Addr} {H H1 H2 : Hp} (x : But a H H1) (y : Same H1 H2) : But a H H2 := fun b o n e => y b o (x b o n e)
theorem But.of {a : Addr} {H H1 : Hp} (y : Same H H1) : But a H H1 := fun b o _ e => y b o e
theorem But.free {a : Addr} {H H1 : Hp} (x : But a H H1) {l : Addr} (n : l ≠ a) (h : H1 l = none) : H l = none := by
  cases q : H l with
  | none => rfl
  | some o =>
    have := x l o n q
    rw [h] at this
    cases this
theorem But.upd {a : Addr} {H H1 : Hp} {o : HO} (x : But a H H1) : But a H (upd H1 a o) := fun b u n e => by rw [upd_ne n]; exact x b u n e
theorem same_upd {H : Hp} {p : Addr} {o : HO} (h : H p = none) : Same H (upd H p o) := fun b u e => by rw [upd_ne (ne_of_none e h)]; exact e
end Rd

/-! Further rules: enumerate and sorted of a tuple; one of two ways to walk. -/
namespace Ru
open PySem PyProof.Rows
open PySem.AutoSeq1 (wpAny_loadPart')
section
variable {prog : Program} {w : World} {A : Around} {E : Value → Shared → Prop} {s : Shared}
theorem nextOf_tup {it t : Addr} {i : Nat} {items : Array Value} {x : Value} {Q : Value → Shared → Prop} (hit : s.heap.IsTupleIter it t i) (ht : s.heap.IsTuple t items) (hx : items[i]? = some x)
    (hQ : ∀ h', h'.IsTupleIter it t (i + 1) → Heap.SameBut it s.heap h' → Q x { s with heap := h' }) : wpAny (model prog w) A (Builtin.SmallTypes.nextOf (.ref it)) Q E s := by
  obtain ⟨oi, hoi, hci, hdi⟩ := id hit
  obtain ⟨ot, hot, _, nt, hdt⟩ := ht
  unfold Builtin.SmallTypes.nextOf
  refine wpAny_bind (wpAny_callSpecial?_slot (name := Str.ofString "__next__") hit.typeIs F.slot_tuple_iterator_next (wpAny_call_entry F.slot_tuple_iterator_next hit.typeIs F.entry_tuple_iterator_next ?_ (F.args_tuple_iterator_next_1 _)))
  show wpAny _ _ (field (.ref it) 0 >>= _) _ _ s
  refine wpAny_bind (wpAny_field hoi hdi (x := .ref t) rfl ?_)
  show wpAny _ _ (if (Value.ref t == Value.none) = true then _ else _) _ _ s
  rw [if_neg (show ¬ ((Value.ref t == Value.none) = true) from Bool.false_ne_true)]
  show wpAny _ _ (field (.ref it) 1 >>= _) _ _ s
  refine wpAny_bind (wpAny_field hoi hdi (x := .int i 0) rfl ?_)
  show wpAny _ _ (seqItems? (.ref t) >>= _) _ _ s
  refine wpAny_bind (wpAny_seqItems hot hdt ?_)
  simp only [Int.toNat_natCast, hx]
  refine wpAny_bind (wpAny_setField hoi hdi (by simp) (wpAny_pure ⟨x, rfl, wpAny_pure (hQ _ ?_ (Heap.SameBut.update ..))⟩))
  exact ⟨_, Heap.get?_update_self _ hoi (Obj.isFreed_of_fields (Obj.data_mapFields hdi _)), (Obj.cls_mapFields ..).trans hci, by rw [Obj.data_mapFields hdi]; simp [rawInt]⟩
theorem nextOf_tup_end {it t : Addr} {i : Nat} {items : Array Value} {Q : Value → Shared → Prop} (hh : A.handled = none) (hit : s.heap.IsTupleIter it t i) (ht : s.heap.IsTuple t items) (hx : items[i]? = none)
    (hE : ∀ h' e, Heap.ExtBut it s.heap h' → (∃ o, h'.get? e = some o ∧ o.cls = .type "StopIteration") → E (.ref e) { s with heap := h' }) : wpAny (model prog w) A (Builtin.SmallTypes.nextOf (.ref it)) Q E s := by
  obtain ⟨oi, hoi, hci, hdi⟩ := id hit
  obtain ⟨ot, hot, _, nt, hdt⟩ := ht
  unfold Builtin.SmallTypes.nextOf
  refine wpAny_bind (wpAny_callSpecial?_slot (name := Str.ofString "__next__") hit.typeIs F.slot_tuple_iterator_next (wpAny_call_entry F.slot_tuple_iterator_next hit.typeIs F.entry_tuple_iterator_next ?_ (F.args_tuple_iterator_next_1 _)))
  show wpAny _ _ (field (.ref it) 0 >>= _) _ _ s
  refine wpAny_bind (wpAny_field hoi hdi (x := .ref t) rfl ?_)
  show wpAny _ _ (if (Value.ref t == Value.none) = true then _ else _) _ _ s
  rw [if_neg (show ¬ ((Value.ref t == Value.none) = true) from Bool.false_ne_true)]
  show wpAny _ _ (field (.ref it) 1 >>= _) _ _ s
  refine wpAny_bind (wpAny_field hoi hdi (x := .int i 0) rfl ?_)
  show wpAny _ _ (seqItems? (.ref t) >>= _) _ _ s
  refine wpAny_bind (wpAny_seqItems hot hdt ?_)
  simp only [Int.toNat_natCast, hx]
  refine wpAny_bind (wpAny_rule (wpAny_bind (wpAny_setField hoi hdi (by simp) ?_)))
  show wpAny _ _ (newExc (.type "StopIteration") [] >>= _) _ _ _
  refine wpAny_bind ?_
  simp only [newExc, newTuple]
  refine wpAny_bind (wpAny_newObj_type ?_ (by size_fits))
  refine wpAny_bind (m := firstArgMember _ _) (wpAny_of_eq (a := Value.none) (by first | rfl | (simp only [firstArgMember]; rfl)) ?_)
  refine wpAny_newObj_type ?_ (by size_fits)
  simp only [raiseNew]
  refine wpAny_bind (wpAny_handled ?_)
  first | rw [show A.in1.handled = none from hh] | rw [hh]
  refine wpAny_bind (wpAny_pure (wpAny_throw ?_))
  exact hE _ _ (((Heap.SameBut.update ..).extBut.push _).push _) ⟨_, Heap.get?_push_size _ rfl, rfl⟩
end
theorem draws_tup {prog : Program} {w : World} {A : Around} (hh : A.handled = none) (it t : Addr) (hne : t ≠ it) (items : Array Value) :
    Draws prog w A it [it, t] items.size (fun i v => items[i]? = some v) (fun i h => h.IsTupleIter it t i ∧ h.IsTuple t items) where
  live := fun _ _ st => let ⟨o, ho, _⟩ := st.1; ⟨o, ho⟩
  frame := fun _ _ _ st hk => ⟨let ⟨o, ho, r⟩ := st.1; ⟨o, hk it (by simp) o ho, r⟩, let ⟨o, ho, r⟩ := st.2; ⟨o, hk t (by simp) o ho, r⟩⟩
  item := fun i s Q E hi st hQ => by
    refine nextOf_tup st.1 st.2 (x := items[i]) (by simp [hi]) fun h' k1 k2 => ?_
    exact hQ _ h' s.toks (by simp [hi]) ⟨k1, st.2.extBut k2.extBut hne⟩ k2
  done := fun s Q E st hE => nextOf_tup_end hh st.1 st.2 (by simp) hE
theorem meets_enum_tup (l : Addr) (items : Array Value) (n : Nat) (dct : Option Addr) (sl : Array (Option Value)) :
    Meets (Builtin.«enumerate.__new__» ⟨[.type "enumerate", .ref l], []⟩) (fun _ R s => s.heap.get? l = some { cls := .type "tuple", dict := dct, data := .seq items n, slots := sl } ∧
      R (.ok (.ret (.ref (s.heap.push { cls := .type "tuple_iterator", data := .fields #[.ref l, .int 0 0] }).objs.size)))
        { s with heap := (s.heap.push { cls := .type "tuple_iterator", data := .fields #[.ref l, .int 0 0] }).push { cls := .type "enumerate", data := .fields #[.none, .bool false, .ref s.heap.objs.size, rawInt 0, .none, .none] } }) :=
  .of_wp fun prog w A R s h => by
    obtain ⟨hp, g, d, tk, os⟩ := s
    obtain ⟨hl, h⟩ := h
    have hsub := sub_enumerate
    have hL : Heap.IsTuple (Shared.heap ⟨hp, g, d, tk, os⟩) l items := ⟨_, hl, rfl, n, rfl⟩
    wp_walk using wpAny_loadPart' hl
    refine wpAny_stack_any fun st => wpAny_pure ?_
    split
    · rename_i c _ _ _ _ _
      cases (c == Value.type "enumerate")
      · wp_walk using wpAny_loadPart' hl, wpAny_pyIter_tuple hL
        exact ⟨_, rfl, h⟩
      · wp_walk using wpAny_loadPart' hl, wpAny_pyIter_tuple hL
        exact ⟨_, rfl, h⟩
    · wp_walk using wpAny_loadPart' hl, wpAny_pyIter_tuple hL
      exact ⟨_, rfl, h⟩
section
variable {prog : Program} {w : World} {A : Around} {E : Value → Shared → Prop} {s : Shared}
theorem call_enum_tup {l : Addr} {items : Array Value} {Q : Value → Shared → Prop} (hL : s.heap.IsTuple l items)
    (h : ∀ h', IsEnum h' (s.heap.objs.size + 1) s.heap.objs.size 0 .none → h'.IsTupleIter s.heap.objs.size l 0 → h'.objs.size = s.heap.objs.size + 2 → (∀ b o, s.heap.get? b = some o → h'.get? b = some o) → Q (.ref (s.heap.objs.size + 1)) { s with heap := h' }) :
    wpAny (model prog w) A (call (.type "enumerate") [.ref l]) Q E s := by
  obtain ⟨⟨c, dct, dt, sl⟩, hl, hc, n, hd⟩ := hL
  replace hc : c = .type "tuple" := hc
  replace hd : dt = .seq items n := hd
  subst hc hd
  refine callType_new F.called_enumerate (by decide) (F.typeCall_enumerate_1 _) (F.newCall_enumerate_1 _) (fun obj => F.args_object_init_2 obj _) F.entry_enumerate_new (meets_enum_tup l items n dct sl) ⟨hl, ?_⟩
  have hz : (s.heap.push { cls := .type "tuple_iterator", data := .fields #[.ref l, .int 0 0] }).objs.size = s.heap.objs.size + 1 := Heap.size_push ..
  show _ ∧ _
  rw [hz]
  have he : IsEnum ((s.heap.push { cls := .type "tuple_iterator", data := .fields #[.ref l, .int 0 0] }).push { cls := .type "enumerate", data := .fields #[.none, .bool false, .ref s.heap.objs.size, rawInt 0, .none, .none] }) (s.heap.objs.size + 1) s.heap.objs.size 0 .none := by
    have q := Heap.get?_push_size (s.heap.push { cls := .type "tuple_iterator", data := .fields #[.ref l, .int 0 0] }) (o := { cls := .type "enumerate", data := .fields #[.none, .bool false, .ref s.heap.objs.size, rawInt 0, .none, .none] }) rfl
    rw [hz] at q
    exact q
  exact ⟨⟨_, he, rfl⟩, h _ he ⟨_, Heap.get?_push_of_some _ (Heap.get?_push_size _ rfl), rfl, rfl⟩ (by rw [Heap.size_push, hz]) fun b o x => Heap.get?_push_of_some _ (Heap.get?_push_of_some _ x)⟩
/-- a tuple is collected into a new list -/
theorem collect_tup {l : Addr} {vs : List Value} {Q : List Value → Shared → Prop} (hl : s.heap.IsTuple l vs.toArray) (hsz : vs.length ≤ sizeLine)
    (h : Q vs { s with heap := (s.heap.push (seqObj "list" #[] 0)).update s.heap.objs.size (Obj.mapSeq (· ++ vs.toArray)) }) : wpAny (model prog w) A (collect (.ref l)) Q E s := by
  obtain ⟨o, ho, hc, n, hd⟩ := id hl
  unfold collect
  refine wpAny_bind (wpAny_runValue (codeAny_builtin entry_proto_collect' ?_))
  show wpAny _ _ (do again (.builtin "list.__iadd__" ⟨[← newList [], .ref l], []⟩)) _ _ s
  refine wpAny_bind (wpAny_newList (wpAny_pure ⟨Code.quiet_builtin _ (by decide +kernel), codeAny_builtin entry_list_iadd' ?_⟩))
  show wpAny _ _ (Builtin.List.listExtendWith (.ref s.heap.objs.size) (.ref l) (.ref s.heap.objs.size)) _ _ { s with heap := s.heap.push (seqObj "list" #[] 0) }
  unfold Builtin.List.listExtendWith
  have ho' : (s.heap.push (seqObj "list" #[] 0)).get? l = some o := Heap.get?_push_of_some _ ho
  refine wpAny_bind (wpAny_typeOf (T := "tuple") ⟨o, ho', hc⟩ ?_)
  have ht : (Value.type "tuple" == Value.type "tuple") = true := by rfl
  rw [if_pos (by rw [ht]; simp)]
  refine wpAny_bind (listItems_at ho' hd ?_)
  refine wpAny_bind (listItems_at (xs := #[]) (n := 0) (Heap.get?_push_size _ rfl) rfl ?_)
  rw [if_neg (by simp)]
  refine wpAny_bind (listUpdate_at (xs := #[]) (n := 0) (Heap.get?_push_size _ rfl) rfl ?_ (Nat.zero_le _) (by show (#[] ++ vs.toArray).size ≤ sizeLine + 1; simp only [Array.size_append, List.size_toArray, List.length_nil]; omega))
  refine wpAny_pure ?_
  show wpAny (model prog w) A (do
      let o ← load s.heap.objs.size
      match o.data with
      | .seq xs _ => pure xs.toList
      | _ => unsupported "internal:collect") Q E { s with heap := (s.heap.push (seqObj "list" #[] 0)).update s.heap.objs.size (Obj.mapSeq (· ++ vs.toArray)) }
  refine wpAny_bind (wpAny_load (get?_update_seq (Heap.get?_push_size _ rfl) _) ?_)
  show wpAny _ _ (pure ((#[] : Array Value) ++ vs.toArray).toList) Q E _
  rw [show ((#[] : Array Value) ++ vs.toArray).toList = vs by simp]
  exact wpAny_pure h
end

section
variable {prog : Program} {w : World} {A : Around} {E : Value → Shared → Prop} {s : Shared}
open SrtO in
/-- sorted of a tuple: the new list stands at size + 1 -/
theorem sorted_tup {l : Addr} {vs : List Value} {ltv : Value → Value → Bool} {Q : Value → Shared → Prop} (O : Swo ltv) (hl : s.heap.IsTuple l vs.toArray) (hz : vs.length ≤ sizeLine)
    (hS : 2 ≤ vs.length → ∀ (g : Heap) (a : Addr), g.get? a = some (seqObj "list" vs.toArray 0) → (∀ b o, s.heap.get? b = some o → b ≠ a ∧ g.get? b = some o) → SortableO prog w A.in1.in1 { s with heap := g } a vs ltv)
    (h : ∀ out : List Value, Srtd ltv out → Stb ltv out vs → Q (.ref (s.heap.objs.size + 1)) { s with heap := sortedAll s.heap vs out.toArray }) : wpAny (model prog w) A (call (.builtin "sorted") [.ref l]) Q E s := by
  refine Calls.call_function_entry kind_sorted plain_sorted entry_sorted (args_sorted1 _) ?_
  unfold Builtin.«sorted»
  refine wpAny_bind (m := checkCount "sorted" 1 1 _) (wpAny_pure ?_)
  refine wpAny_bind (collect_tup hl hz ?_)
  refine wpAny_bind (wpAny_newList ?_ hz)
  have e1 : ((s.heap.push (seqObj "list" #[] 0)).update s.heap.objs.size (Obj.mapSeq (· ++ vs.toArray))).objs.size = s.heap.objs.size + 1 := by rw [Heap.size_update, size_push']
  have e2 : (((s.heap.push (seqObj "list" #[] 0)).update s.heap.objs.size (Obj.mapSeq (· ++ vs.toArray))).push (seqObj "list" vs.toArray 0)).get? (s.heap.objs.size + 1) = some (seqObj "list" vs.toArray 0) := by
    rw [← e1]
    exact Heap.get?_push_size _ rfl
  have e3 : ∀ b o, s.heap.get? b = some o → b ≠ s.heap.objs.size + 1 ∧ (((s.heap.push (seqObj "list" #[] 0)).update s.heap.objs.size (Obj.mapSeq (· ++ vs.toArray))).push (seqObj "list" vs.toArray 0)).get? b = some o := fun b o q => by
    have lt : b < s.heap.objs.size := Heap.lt_size q
    refine ⟨Nat.ne_of_lt (Nat.lt_succ_of_lt lt), Heap.get?_push_of_some _ ?_⟩
    rw [Heap.get?_update_ne _ _ _ _ (Nat.ne_of_lt lt)]
    exact Heap.get?_push_of_some _ q
  show wpAny _ _ _ _ _ { s with heap := ((s.heap.push (seqObj "list" #[] 0)).update s.heap.objs.size (Obj.mapSeq (· ++ vs.toArray))).push (seqObj "list" vs.toArray 0) }
  rw [e1]
  refine wpAny_bind (wpAny_holding (wpAny_call_entry slot_list_sort ⟨_, e2, rfl⟩ entry_list_sort (list_sort_ord O e2 hz (fun h2 => hS h2 _ _ e2 e3) fun out hs hb => ⟨_, rfl, ?_⟩) (args_list_sort _)))
  exact wpAny_pure ⟨_, rfl, h out hs hb⟩
end
end Ru
namespace Ru
open PySem PySem.Spec PyProof.Rows L2
/-- one of two ways to walk -/
theorem pi_or {X : Cx} {tg e : Expr} {t u : TI} (a : PI X tg e t) (b : PI X tg e u) : PI X tg e (fun σ H R => t σ H R ∨ u σ H R) := ⟨fun pins s σ H R I h => h.elim (a.run pins s σ H R I) (b.run pins s σ H R I)⟩
theorem callR_or {X : Cx} {f : Value} {r r' : List V → Hp → VK → Prop} (a : CallR X f r) (b : CallR X f r') : CallR X f (fun vs H Q => r vs H Q ∨ r' vs H Q) := fun pins s σ H vs us Q I rv h => h.elim (a pins s σ H vs us Q I rv) (b pins s σ H vs us Q I rv)
/-- sorted(t), t a tuple of ints -/
def rSortedTup (K : PySem.W.Frag) : List V → Hp → VK → Prop := fun vs H Q => ∃ (a : Addr) (ns : List Int), vs = [V.ref a] ∧ SqT K H a (ns.map V.int) ∧
  ∀ (ms : List Int) (p : Addr), ms.Perm ns → ms.Pairwise (· ≤ ·) → H p = none → Q (.ref p) (upd H p (.lst (ms.map V.int)))
theorem cr_sortedTup {X : Cx} : CallR X (.builtin "sorted") (rSortedTup X.K) := by
  intro pins s σ H vs us Q I r h
  obtain ⟨a, ns, rfl, hs, q⟩ := h
  obtain ⟨its, rv, hl, hz⟩ := I.tuple hs
  rw [Vals.ref1 r]
  have hi := rv.ints
  refine sorted_tup SrtO.swo_int (show s.heap.IsTuple a its.toArray from hl) (by rw [← rv.length]; exact hz) (fun h2 g b _ _ => SrtO.ints_sortable hi h2) fun out h1 h2 => ?_
  obtain ⟨k1, k2, k3⟩ := SrtO.ints_out hi h1 h2
  obtain ⟨ep, he⟩ := PyProof.Rows.sortedAll_at s.heap its out.toArray
  have ln : ((out.map SrtO.iv).map V.int).length ≤ sizeLine := by
    rw [List.length_map, k2.length_eq]
    rw [List.length_map] at hz
    exact hz
  exact ⟨.ref _, upd H (s.heap.objs.size + 1) (.lst ((out.map SrtO.iv).map V.int)), I.laid (t' := s.toks) (fun _ _ => PyProof.Rows.sortedAll_old) (Nat.le_succ _) ⟨ln, out, ep, vals_of_ints k1, he⟩, rfl, q _ _ k2 k3 (I.hok.fresh (Nat.le_succ _))⟩
/-- enumerate of a tuple: each item in a new pair -/
def IteT (K : PySem.W.Frag) (a : Addr) : It :=
  ⟨fun i H => ∃ (xs : List V) (x : V), SqT K H a xs ∧ xs[i]? = some x, fun i H v H' => ∃ T x, v = .ref T ∧ H T = none ∧ H' = upd H T (.tup [.int (i : Nat), x]) ∧ ∀ xs, SqT K H a xs → xs[i]? = some x, fun i H => ∃ xs : List V, SqT K H a xs ∧ xs.length = i⟩
theorem turn_enumT {P : Program} {w : World} {K : PySem.W.Frag} {elts : List Expr} {kk : Nat} {tpos : Pos} (a e it : Addr) :
    Turn P w K (.Tuple elts kk tpos) (IteT K a) [e, it] e (fun i h => (∃ old, IsEnum h e it ((i : Nat) : Int) old) ∧ h.IsTupleIter it a i ∧ e ≠ it) where
  mem := by simp
  obj := fun i h st b hb => by
    obtain ⟨⟨old, he⟩, ⟨o, ho, hc, hd⟩, _⟩ := st
    have z : b = e ∨ b = it := by simpa using hb
    rcases z with z | z
    · rw [z]; exact ⟨_, he, fun v q => nomatch q⟩
    · rw [z]; exact ⟨o, ho, fun v q => by rw [hd] at q; cases q⟩
  keep := fun i h h' st k => let ⟨⟨old, he⟩, ⟨o, ho, r⟩, hne⟩ := st; ⟨⟨old, k e (by simp) _ he⟩, ⟨o, k it (by simp) o ho, r⟩, hne⟩
  item := by
    intro X hP hw hK hc i pins s σ H E I hf st hg
    subst hP hw hK
    obtain ⟨⟨old, he⟩, hit, hne⟩ := st
    obtain ⟨xs, x, hq, hx⟩ := hg
    obtain ⟨its, rv, p, hz⟩ := I.tuple hq
    obtain ⟨u, hu, ru⟩ := rv.get hx
    have hel : e < s.heap.objs.size := Heap.lt_size he
    have hil : it < s.heap.objs.size := by obtain ⟨_, q, _⟩ := hit; exact Heap.lt_size q
    have hat : a ≠ it := fun z => by
      obtain ⟨o, q1, q2, _⟩ := hit
      obtain ⟨o', q3, q4, _⟩ := (show s.heap.IsTuple a its.toArray from p)
      rw [← z, q3] at q1
      cases q1
      rw [q4] at q2
      exact absurd (Value.type.inj q2) (by decide)
    have hea : e ≠ a := fun z => by
      obtain ⟨o', q3, q4, _⟩ := (show s.heap.IsTuple a its.toArray from p)
      rw [← z, he] at q3
      cases q3
      exact absurd (Value.type.inj q4) (by decide)
    have hlt : i < its.toArray.size := by
      have := (List.getElem?_eq_some_iff.mp hu).1
      simpa using this
    refine wpAny_pyNext_enum_itemD (draws_tup (prog := X.prog) (w := X.w) (A := X.A.in1) (I.ok.hd hc) it a hat its.toArray) he ⟨hit, p⟩ hlt hne (by simp [hne, hea]) fun y h' tk hy ho st' hT hsz hk => ?_
    have hy' : y = u := by
      have z : its.toArray[i]? = some u := by simpa using hu
      rw [z] at hy
      exact (Option.some.inj hy).symm
    subst hy'
    refine ⟨_, rfl, wpAny_letOwnedTupleGo_enum (s := { s with heap := h', toks := tk + 1 }) ho fun h'' he' sb => ?_⟩
    have hT2 : h''.get? s.heap.objs.size = some { cls := .type "tuple", data := .seq #[.int i tk, y] } := (sb.2 _ (Nat.ne_of_gt hel)).trans hT
    have new : ObjOk X.prog X.w (upd H s.heap.objs.size (.tup [.int (i : Nat), x])) h'' s.heap.objs.size (.tup [.int (i : Nat), x]) :=
      ⟨by show 2 ≤ sizeLine; decide, [.int i tk, y], .cons ⟨_, rfl⟩ (.cons ru .nil), ⟨_, hT2, rfl, _, rfl⟩⟩
    have I1 : Inv X pins σ (upd H s.heap.objs.size (.tup [.int (i : Nat), x])) { s with heap := h'', toks := tk + 1 } :=
      I.turnedNew (ch := [e, it]) (fun b ob hb q => (sb.2 b (fun z => hb (by simp [z]))).trans (hk b ob (fun z => hb (by simp [z])) (fun z => hb (by simp [z])) q)) hf (Nat.le_refl _) new
    refine ⟨.ref s.heap.objs.size, _, I1, rfl, ⟨_, x, rfl, I.hok.fresh (Nat.le_refl _), rfl, fun ys hy => by rw [I.tuple_inj hy hq]; exact hx⟩, ⟨⟨y, ?_⟩, ?_, hne⟩, fun b hb => ?_⟩
    · have e1 : ((i + 1 : Nat) : Int) = (i : Int) + 1 := by omega
      rw [e1]; exact he'
    · obtain ⟨o, q, r⟩ := st'.1
      exact ⟨o, (sb.2 it (Ne.symm hne)).trans q, r⟩
    · have hb' : b < s.heap.objs.size := by
        have z : b = e ∨ b = it := by simpa using hb
        rcases z with z | z
        · rw [z]; exact hel
        · rw [z]; exact hil
      rw [upd_ne (Nat.ne_of_lt hb')]
      exact (hf b hb).1
  done := by
    intro X hP hw hK hc i pins s σ H E I hf st hg
    subst hP hw hK
    obtain ⟨⟨old, he⟩, hit, hne⟩ := st
    obtain ⟨xs, hq, hx⟩ := hg
    obtain ⟨its, rv, p, hz⟩ := I.tuple hq
    obtain ⟨f0, f1, f2, f3, f4, f5⟩ := hf it (by simp)
    have hl := rv.length
    have hat : a ≠ it := fun z => by
      obtain ⟨o, q1, q2, _⟩ := hit
      obtain ⟨o', q3, q4, _⟩ := (show s.heap.IsTuple a its.toArray from p)
      rw [← z, q3] at q1
      cases q1
      rw [q4] at q2
      exact absurd (Value.type.inj q2) (by decide)
    have hn : i = its.toArray.size := by simp; omega
    refine wpAny_pyNext_enum_endD (draws_tup (prog := X.prog) (w := X.w) (A := X.A.in1) (I.ok.hd hc) it a hat its.toArray) he (by rw [hn] at hit; exact ⟨hit, p⟩) fun h' eb => ⟨rfl, ?_⟩
    obtain ⟨g0, g1, g2, g3, g4, g5⟩ := hf e (by simp)
    obtain ⟨f0, f1, f2, f3, f4, f5⟩ := hf it (by simp)
    exact I.turned (t' := s.toks) (fun b o hb q => eb b o hb q) f0 f1 f3 f4 f5
  self := fun A i s Q E st h => let ⟨⟨_, he⟩, _⟩ := st; wpAny_pyIter_enum he h
def iEnumT (K : PySem.W.Frag) (ta : TA) : TI := fun σ H R => ta σ H fun vs H1 => ∃ a xs, vs = [.ref a] ∧ SqT K H1 a xs ∧ R (IteT K a) H1
theorem pi_enumT {X : Cx} {e : Expr} {ta : TA} {p pos tpos : Pos} {elts : List Expr} {kk : Nat} (hg : Gl X "enumerate") (hm : X.mg "enumerate" = none) (ha : PA X [e] ta) (hs : starEach [e] X.env = [(false, eval e X.env)] := by rfl) :
    PI X (.Tuple elts kk tpos) (.Call (.Name "enumerate" p) [e] [] pos) (iEnumT X.K ta) := by
  refine ⟨fun pins s σ H R I h => ?_⟩
  refine Call_ (ld_blt I hg hm boot_enumerate (PyProof.Rows.callWith_type1 (thn (ha.run pos pins s σ H _ I h) fun us s1 ⟨vs, H1, I1, r1, q1⟩ => ?_) hs rfl))
  obtain ⟨a, xs, ex, hq, q⟩ := q1
  subst ex
  cases r1 with
  | cons r rr =>
    cases rr
    cases r
    obtain ⟨its, rv, p', hz⟩ := I1.tuple hq
    refine call_enum_tup (show s1.heap.IsTuple a its.toArray from p') fun h' he hit hsz hk => wpAny_pyIter_enum he ?_
    have I2 : Inv X pins σ H1 { s1 with heap := h' } := I1.kept (t' := s1.toks) hk
    refine ⟨s1.heap.objs.size + 1, [s1.heap.objs.size + 1, s1.heap.objs.size], _, _, H1, rfl, I2, turn_enumT a (s1.heap.objs.size + 1) s1.heap.objs.size, ⟨⟨.none, he⟩, hit, Nat.succ_ne_self _⟩, fun b hb => ?_, q⟩
    have z : b = s1.heap.objs.size + 1 ∨ b = s1.heap.objs.size := by simpa using hb
    have hle : s1.heap.objs.size ≤ b := by
      rcases z with z | z
      · rw [z]; exact Nat.le_add_right _ _
      · rw [z]; exact Nat.le_refl _
    exact I1.fpOk hle (I1.hok.fresh hle)
/-- a loop over enumerate of a list that stands still -/
theorem for_enum {K : PySem.W.Frag} {a : Addr} {xs : List V} {g : TG} {tb : TS} {D : Ends} {σ : L2.St} {H : Hp} (Pv : Nat → L2.St → Hp → Prop) (h0 : Pv 0 σ H) (hl : ∀ i σ H, i ≤ xs.length → Pv i σ H → SqL K H a xs)
    (hs : ∀ i x σ H (T : Addr), xs[i]? = some x → Pv i σ H → H T = none → g (.ref T) σ (upd H T (.tup [.int (i : Nat), x])) fun σ2 H2 => tb { D with nx := Pv (i + 1), ct := Pv (i + 1), bk := D.nx } σ2 H2) (hd : ∀ σ H, Pv xs.length σ H → D.nx σ H) :
    ∃ W : Nat → Nat → L2.St → Hp → Prop, (∃ m, W 0 m σ H) ∧ ∀ i m σ H, W i m σ H →
      ((Ite K a).stop i H ∧ D.nx σ H) ∨ ((Ite K a).go i H ∧ ∃ N : L2.St → Hp → Prop, (∀ σ' H', N σ' H' → ∃ m', m' < m ∧ W (i + 1) m' σ' H') ∧ ∀ x H', (Ite K a).yld i H x H' → g x σ H' fun σ2 H2 => tb { D with nx := N, ct := N, bk := D.nx } σ2 H2) := by
  refine ⟨fun i m σ H => m = xs.length - i ∧ i ≤ xs.length ∧ Pv i σ H, ⟨xs.length, by simp, Nat.zero_le _, h0⟩, ?_⟩
  rintro i m σ H ⟨rfl, hi, p⟩
  have q := hl i σ H hi p
  by_cases lt : i < xs.length
  · refine .inr ⟨⟨xs, xs[i], q, by simp [lt]⟩, Pv (i + 1), fun σ' H' p' => ⟨xs.length - (i + 1), by omega, rfl, lt, p'⟩, fun x H' y => ?_⟩
    obtain ⟨T, z, rfl, hT, rfl, y⟩ := y
    exact hs i z σ H T (y xs q) p hT
  · have e : i = xs.length := by omega
    subst e
    exact .inl ⟨⟨xs, q, Nat.le_refl _⟩, hd σ H p⟩
theorem for_enumT {K : PySem.W.Frag} {a : Addr} {xs : List V} {g : TG} {tb : TS} {D : Ends} {σ : L2.St} {H : Hp} (Pv : Nat → L2.St → Hp → Prop) (h0 : Pv 0 σ H) (hl : ∀ i σ H, i ≤ xs.length → Pv i σ H → SqT K H a xs)
    (hs : ∀ i x σ H (T : Addr), xs[i]? = some x → Pv i σ H → H T = none → g (.ref T) σ (upd H T (.tup [.int (i : Nat), x])) fun σ2 H2 => tb { D with nx := Pv (i + 1), ct := Pv (i + 1), bk := D.nx } σ2 H2) (hd : ∀ σ H, Pv xs.length σ H → D.nx σ H) :
    ∃ W : Nat → Nat → L2.St → Hp → Prop, (∃ m, W 0 m σ H) ∧ ∀ i m σ H, W i m σ H →
      ((IteT K a).stop i H ∧ D.nx σ H) ∨ ((IteT K a).go i H ∧ ∃ N : L2.St → Hp → Prop, (∀ σ' H', N σ' H' → ∃ m', m' < m ∧ W (i + 1) m' σ' H') ∧ ∀ x H', (IteT K a).yld i H x H' → g x σ H' fun σ2 H2 => tb { D with nx := N, ct := N, bk := D.nx } σ2 H2) := by
  refine ⟨fun i m σ H => m = xs.length - i ∧ i ≤ xs.length ∧ Pv i σ H, ⟨xs.length, by simp, Nat.zero_le _, h0⟩, ?_⟩
  rintro i m σ H ⟨rfl, hi, p⟩
  have q := hl i σ H hi p
  by_cases lt : i < xs.length
  · refine .inr ⟨⟨xs, xs[i], q, by simp [lt]⟩, Pv (i + 1), fun σ' H' p' => ⟨xs.length - (i + 1), by omega, rfl, lt, p'⟩, fun x H' y => ?_⟩
    obtain ⟨T, z, rfl, hT, rfl, y⟩ := y
    exact hs i z σ H T (y xs q) p hT
  · have e : i = xs.length := by omega
    subst e
    exact .inl ⟨⟨xs, q, rfl⟩, hd σ H p⟩
/-! ### a row: a list or a tuple -/
def SqR (K : PySem.W.Frag) (H : Hp) (a : Addr) (xs : List V) : Prop := SqL K H a xs ∨ SqT K H a xs
theorem same_tup {K : PySem.W.Frag} {H H' : Hp} {a : Addr} {xs : List V} (e : Same H H') (h : SqT K H a xs) : SqT K H' a xs := by
  rcases h with (h | ⟨o, h⟩) | h
  · exact .inl (.inl (e _ _ h))
  · exact .inl (.inr ⟨o, e _ _ h⟩)
  · exact .inr h
theorem SqR.same {K : PySem.W.Frag} {H H' : Hp} {a : Addr} {xs : List V} (e : Same H H') (h : SqR K H a xs) : SqR K H' a xs := h.imp e.seq (same_tup e)
/-- a loop over a row that stands still -/
theorem for_row {K : PySem.W.Frag} {a : Addr} {xs : List V} {g : TG} {tb : TS} {D : Ends} {σ : L2.St} {H : Hp} {ta : TE} (ea : ∀ Q, Q (.ref a) H → ta σ H Q) (Pv : Nat → L2.St → Hp → Prop) {Hb : Hp} (hr : SqR K Hb a xs) (h0 : Pv 0 σ H) (hl : ∀ i σ H', i ≤ xs.length → Pv i σ H' → Same Hb H')
    (hs : ∀ i x σ H, xs[i]? = some x → Pv i σ H → g x σ H fun σ2 H2 => tb { D with nx := Pv (i + 1), ct := Pv (i + 1), bk := D.nx } σ2 H2) (hd : ∀ σ H, Pv xs.length σ H → D.nx σ H) :
    tFor (fun σ H R => iList K ta σ H R ∨ iTup K ta σ H R) g tb D σ H := by
  rcases hr with hr | hr
  · exact .inl (ea _ ⟨a, rfl, ⟨_, (hl 0 σ H (Nat.zero_le _) h0).seq hr⟩, for_list (K := K) (a := a) (xs := xs) Pv h0 (fun i σ H' hi p => (hl i σ H' hi p).seq hr) hs hd⟩)
  · exact .inr (ea _ ⟨a, rfl, ⟨_, same_tup (hl 0 σ H (Nat.zero_le _) h0) hr⟩, for_tup (K := K) (a := a) (xs := xs) Pv h0 (fun i σ H' hi p => same_tup (hl i σ H' hi p) hr) hs hd⟩)
/-- .. over enumerate of a row -/
theorem for_enumR {K : PySem.W.Frag} {a : Addr} {xs : List V} {g : TG} {tb : TS} {D : Ends} {σ : L2.St} {H : Hp} {ta : TA} (ea : ∀ Q, Q [.ref a] H → ta σ H Q) (Pv : Nat → L2.St → Hp → Prop) {Hb : Hp} (hr : SqR K Hb a xs) (h0 : Pv 0 σ H) (hl : ∀ i σ H', i ≤ xs.length → Pv i σ H' → Same Hb H')
    (hs : ∀ i x σ H (T : Addr), xs[i]? = some x → Pv i σ H → H T = none → g (.ref T) σ (upd H T (.tup [.int (i : Nat), x])) fun σ2 H2 => tb { D with nx := Pv (i + 1), ct := Pv (i + 1), bk := D.nx } σ2 H2) (hd : ∀ σ H, Pv xs.length σ H → D.nx σ H) :
    tFor (fun σ H R => iEnum K ta σ H R ∨ iEnumT K ta σ H R) g tb D σ H := by
  rcases hr with hr | hr
  · exact .inl (ea _ ⟨a, _, rfl, (hl 0 σ H (Nat.zero_le _) h0).seq hr, for_enum (K := K) (a := a) (xs := xs) Pv h0 (fun i σ H' hi p => (hl i σ H' hi p).seq hr) hs hd⟩)
  · exact .inr (ea _ ⟨a, _, rfl, same_tup (hl 0 σ H (Nat.zero_le _) h0) hr, for_enumT (K := K) (a := a) (xs := xs) Pv h0 (fun i σ H' hi p => same_tup (hl i σ H' hi p) hr) hs hd⟩)
theorem ty_L {K : PySem.W.Frag} {H : Hp} {a : Addr} {xs : List V} (h : SqL K H a xs) : TyX K H (.ref a) (.type "list") := by
  rcases h with (h | ⟨o, h⟩) | ⟨o, its, n, h1, h2, _⟩
  · exact .base (.lst h)
  · exact .base (.frz h)
  · exact .kList h1 h2
theorem ty_T {K : PySem.W.Frag} {H : Hp} {a : Addr} {xs : List V} (h : SqT K H a xs) : TyX K H (.ref a) (.type "tuple") := by
  rcases h with (h | ⟨o, h⟩) | ⟨o, its, n, h1, h2, _⟩
  · exact .base (.tup h)
  · exact .fTuple h
  · exact .kTuple h1 h2
/-- isinstance(row, (list, tuple)) -/
theorem isRow {K : PySem.W.Frag} {H : Hp} {a tp : Addr} {xs : List V} {Q : VK} (h : SqR K H a xs) (ht : H tp = some (.tup [.ty "list", .ty "tuple"])) (q : Q (.bl true) H) : rIsiT K [.ref a, .ref tp] H Q := by
  have pc : Paired ClsV [.ty "list", .ty "tuple"] [.type "list", .type "tuple"] := .cons (.ty _) (.cons (.ty _) .nil)
  rcases h with h | h
  · exact ⟨_, tp, _, _, _, true, rfl, ht, pc, ty_L h, kitAny_cons (kit_ty (r := true) (by decide +kernel)) (fun z => nomatch z) (fun _ => rfl), q⟩
  · exact ⟨_, tp, _, _, _, true, rfl, ht, pc, ty_T h, kitAny_cons (kit_ty (r := false) (by decide +kernel)) (fun _ => kitAny_cons (kit_ty (r := true) (by decide +kernel)) (fun z => nomatch z) (fun _ => rfl)) (fun z => nomatch z), q⟩
theorem sortedR {K : PySem.W.Frag} {H : Hp} {a : Addr} {ns : List Int} {Q : VK} (hp : SqR K H a (ns.map V.int)) (h : ∀ (ms : List Int) (p : Addr) (G : Hp), ms.Perm ns → ms.Pairwise (· ≤ ·) → G p = some (.lst (ms.map V.int)) → Same H G → H p = none → Q (.ref p) G) : rSortedI K [.ref a] H Q ∨ rSortedTup K [.ref a] H Q :=
  hp.imp (fun q => Rd.sortedI q h) fun q => ⟨a, ns, rfl, q, fun ms p h1 h2 h3 => h ms p _ h1 h2 upd_same (fun b u e => by rw [upd_ne (ne_of_none e h3)]; exact e) h3⟩
end Ru

/-! Readings of texts, comprehensions and own objects by their heads; letters. -/
namespace Rd
open PySem PySem.Spec PyProof.Rows L2
variable {X : Cx} {D : Ends} {σ : L2.St} {H : Hp} {K : PySem.W.Frag}
/-! ### texts -/
def nAddS : R2 := fun x y H Q => ∃ i j, x = .str i ∧ y = .str j ∧ i.length + j.length ≤ sizeLine ∧ Q (.str (i ++ j)) H
theorem o_addS : OpR X (binaryOp .Add) nAddS := op_add_str
theorem addS {i j : Str} {Q : VK} (hz : i.length + j.length ≤ sizeLine) (h : Q (.str (i ++ j)) H) : nAddS (.str i) (.str j) H Q := ⟨i, j, rfl, rfl, hz, h⟩
def nInC : R2 := fun x y H Q => ∃ (c : Nat) (z : Str), x = .str ⟨#[c]⟩ ∧ y = .str z ∧ Q (.bl (decide (c ∈ z.cps.toList))) H
theorem o_inC : OpR X (compareOp .In) nInC := op_in_sign
theorem inC {c : Nat} {z : Str} {Q : VK} (h : Q (.bl (decide (c ∈ z.cps.toList))) H) : nInC (.str ⟨#[c]⟩) (.str z) H Q := ⟨c, z, rfl, rfl, h⟩
theorem inCT {c : Nat} {z : Str} {Q : VK} (e : c ∈ z.cps.toList) (h : Q (.bl true) H) : nInC (.str ⟨#[c]⟩) (.str z) H Q := inC (by rw [decide_eq_true e]; exact h)
theorem nodup_take {α : Type} {l : List α} {i : Nat} {x : α} (nd : l.Nodup) (h : l[i]? = some x) : x ∉ l.take i := by
  intro m
  obtain ⟨j, hj, e⟩ := List.getElem_of_mem m
  rw [List.length_take] at hj
  have e2 : l[j]? = some x := by rw [← e, List.getElem_take]; exact List.getElem?_eq_getElem (by omega)
  have := (List.getElem?_inj (by omega) nd).mp (e2.trans h.symm)
  omega
theorem ixS {z : Str} {i : Int} {c : Nat} {Q : VK} (hz : z.length ≤ sizeLine) (e : atI z.cps.toList i = some c) (h : Q (.str ⟨#[c]⟩) H) : rIxS (.str z) (.int i) H Q := ⟨z, i, c, rfl, rfl, hz, e, h⟩
theorem inStrs {neg : Bool} {z : Str} {p : Addr} {ws : List Str} {Q : VK} (hp : SqL K H p (ws.map V.str) ∨ SqT K H p (ws.map V.str)) (h : Q (.bl (if neg then !decide (z ∈ ws) else decide (z ∈ ws))) H) : rIn K neg (.str z) (.ref p) H Q := by
  have e : inV (.str z) (ws.map V.str) = decide (z ∈ ws) := by
    unfold inV
    rw [List.any_map, Bool.eq_iff_iff, List.any_eq_true, decide_eq_true_iff]
    constructor
    · rintro ⟨y, hy, q⟩
      have : y = z := by simpa [eqV] using q
      exact this ▸ hy
    · intro hz
      exact ⟨z, hz, by simp [eqV]⟩
  exact Rd.inS hp rfl (flat_strs ws) (by rw [e]; exact h)
theorem inStrsY {z : Str} {p : Addr} {ws : List Str} {Q : VK} (hp : SqL K H p (ws.map V.str) ∨ SqT K H p (ws.map V.str)) (h : Q (.bl (decide (z ∈ ws))) H) : rIn K false (.str z) (.ref p) H Q := inStrs hp h
theorem inStrsN {z : Str} {p : Addr} {ws : List Str} {Q : VK} (hp : SqL K H p (ws.map V.str) ∨ SqT K H p (ws.map V.str)) (h : Q (.bl (!decide (z ∈ ws))) H) : rIn K true (.str z) (.ref p) H Q := inStrs hp h
theorem inInts {neg : Bool} {z : Int} {p : Addr} {ws : List Int} {Q : VK} (hp : SqL K H p (ws.map V.int) ∨ SqT K H p (ws.map V.int)) (h : Q (.bl (if neg then !decide (z ∈ ws) else decide (z ∈ ws))) H) : rIn K neg (.int z) (.ref p) H Q := by
  have e : inV (.int z) (ws.map V.int) = decide (z ∈ ws) := by
    unfold inV
    rw [List.any_map, Bool.eq_iff_iff, List.any_eq_true, decide_eq_true_iff]
    constructor
    · rintro ⟨y, hy, q⟩
      have : y = z := by simpa [eqV] using q
      exact this ▸ hy
    · intro hz
      exact ⟨z, hz, by simp [eqV]⟩
  exact Rd.inS hp rfl (by rw [List.all_map]; exact List.all_eq_true.mpr fun _ _ => rfl) (by rw [e]; exact h)
theorem inIntsY {z : Int} {p : Addr} {ws : List Int} {Q : VK} (hp : SqL K H p (ws.map V.int) ∨ SqT K H p (ws.map V.int)) (h : Q (.bl (decide (z ∈ ws))) H) : rIn K false (.int z) (.ref p) H Q := inInts hp h
theorem inIntsN {z : Int} {p : Addr} {ws : List Int} {Q : VK} (hp : SqL K H p (ws.map V.int) ∨ SqT K H p (ws.map V.int)) (h : Q (.bl (!decide (z ∈ ws))) H) : rIn K true (.int z) (.ref p) H Q := inInts hp h
theorem map_str {ns : List Str} {i : Nat} (h : i < ns.length) : (ns.map V.str)[i]? = some (.str ns[i]) := by simp [h]
theorem map_strG {ns : List Str} {i : Nat} {x : V} (h : (ns.map V.str)[i]? = some x) : ∃ n, ns[i]? = some n ∧ x = .str n := by
  rw [List.getElem?_map] at h
  cases e : ns[i]? with
  | none => rw [e] at h; cases h
  | some z => rw [e] at h; exact ⟨z, rfl, (Option.some.inj h).symm⟩
theorem map_refG {ns : List Addr} {i : Nat} {x : V} (h : (ns.map V.ref)[i]? = some x) : ∃ n, ns[i]? = some n ∧ x = .ref n := by
  rw [List.getElem?_map] at h
  cases e : ns[i]? with
  | none => rw [e] at h; cases h
  | some z => rw [e] at h; exact ⟨z, rfl, (Option.some.inj h).symm⟩
theorem map_ref {ns : List Addr} {i : Nat} (h : i < ns.length) : (ns.map V.ref)[i]? = some (.ref ns[i]) := by simp [h]
theorem ins {l : Addr} {xs : List V} {i : Int} {y : V} {Q : VK} (hp : H l = some (.lst xs)) (hz : xs.length < sizeLine) (h0 : 0 ≤ i) (h1 : i < 2 ^ 63) (h : ∀ G : Hp, G l = some (.lst (xs.take i.toNat ++ [y] ++ xs.drop i.toNat)) → (∀ b, b ≠ l → G b = H b) → Q .non G) :
    ∃ (l' : Addr) (xs' : List V) (i' : Int) (y' : V), V.ref l = .ref l' ∧ [V.int i, y] = [.int i', y'] ∧ H l' = some (.lst xs') ∧ xs'.length < sizeLine ∧ 0 ≤ i' ∧ i' < 2 ^ 63 ∧ Q .non (upd H l' (.lst (xs'.take i'.toNat ++ [y'] ++ xs'.drop i'.toNat))) :=
  ⟨l, xs, i, y, rfl, rfl, hp, hz, h0, h1, h _ upd_same fun b hb => upd_ne hb⟩
def nInsert : V → List V → Hp → VK → Prop := fun x vs H Q => ∃ (l : Addr) (xs : List V) (i : Int) (y : V), x = .ref l ∧ vs = [.int i, y] ∧ H l = some (.lst xs) ∧ xs.length < sizeLine ∧ 0 ≤ i ∧ i < 2 ^ 63 ∧
    Q .non (upd H l (.lst (xs.take i.toNat ++ [y] ++ xs.drop i.toNat)))
theorem m_insert : MtR X "list.insert" nInsert := mt_insert
theorem insert {l : Addr} {xs : List V} {i : Int} {y : V} {Q : VK} (hp : H l = some (.lst xs)) (hz : xs.length < sizeLine) (h0 : 0 ≤ i) (h1 : i < 2 ^ 63) (h : ∀ G : Hp, G l = some (.lst (xs.take i.toNat ++ [y] ++ xs.drop i.toNat)) → (∀ b, b ≠ l → G b = H b) → Q .non G) : nInsert (.ref l) [.int i, y] H Q :=
  ins hp hz h0 h1 h
/-! ### equal lists of texts -/
theorem dpAll_strs : ∀ ns : List Str, DpAll K H (ns.map V.str) (ns.map PyData.str)
  | [] => .nil
  | n :: ns => .cons (.str n) (dpAll_strs ns)
theorem canLay_strs : ∀ ns : List Str, (∀ z ∈ ns, PyData.strOk z = true) → PyData.canLayAll0 (ns.map PyData.str) = true
  | [], _ => rfl
  | n :: ns, h => by
    show (PyData.canLay0 (.str n) && PyData.canLayAll0 (ns.map PyData.str)) = true
    rw [canLay_strs ns fun z hz => h z (List.mem_cons_of_mem _ hz)]
    show (PyData.strOk n && true) = true
    rw [h n List.mem_cons_self]
    rfl
theorem depth_strs : ∀ ns : List Str, PyData.depthAll (ns.map PyData.str) = 0
  | [] => rfl
  | n :: ns => by
    show max (PyData.depth (.str n)) (PyData.depthAll (ns.map PyData.str)) = 0
    rw [depth_strs ns]
    rfl
theorem shaped_strs {ns : List Str} (h : ∀ z ∈ ns, PyData.strOk z = true) : SeqAt.shaped (.list (ns.map PyData.str)) = true := by
  have h1 : PyData.canLay0 (.list (ns.map PyData.str)) = true := canLay_strs ns h
  have h2 : PyData.depth (.list (ns.map PyData.str)) = 1 := by
    show PyData.depthAll (ns.map PyData.str) + 1 = 1
    rw [depth_strs]
  unfold SeqAt.shaped
  rw [h1, h2]
  rfl
theorem eqStrs {a b : Addr} {ns : List Str} {Q : VK} (h1 : SqL K H a (ns.map V.str)) (h2 : SqL K H b (ns.map V.str)) (h : ∀ z ∈ ns, PyData.strOk z = true) (q : Q (.bl true) H) : rEqD K (.ref a) (.ref b) H Q := by
  refine ⟨_, _, .lst h1 (dpAll_strs ns), .lst h2 (dpAll_strs ns), shaped_strs h, shaped_strs h, ?_⟩
  rw [SeqAt.eqv_refl _ (SeqAt.canLay_of_shaped (shaped_strs h))]
  exact q
theorem neStrs {a b : Addr} {ns : List Str} {Q : VK} (h1 : SqL K H a (ns.map V.str)) (h2 : SqL K H b (ns.map V.str)) (h : ∀ z ∈ ns, PyData.strOk z = true) (q : Q (.bl false) H) : rNeD K (.ref a) (.ref b) H Q := by
  refine ⟨_, _, .lst h1 (dpAll_strs ns), .lst h2 (dpAll_strs ns), shaped_strs h, shaped_strs h, ?_⟩
  rw [SeqAt.eqv_refl _ (SeqAt.canLay_of_shaped (shaped_strs h))]
  exact q
/-! ### equal lists of ints -/
theorem dpAll_ints : ∀ ns : List Int, DpAll K H (ns.map V.int) (ns.map PyData.int)
  | [] => .nil
  | n :: ns => .cons (.int n) (dpAll_ints ns)
theorem canLay_ints : ∀ ns : List Int, PyData.canLayAll0 (ns.map PyData.int) = true
  | [] => rfl
  | n :: ns => by
    show (PyData.canLay0 (.int n) && PyData.canLayAll0 (ns.map PyData.int)) = true
    rw [canLay_ints ns]
    rfl
theorem depth_ints : ∀ ns : List Int, PyData.depthAll (ns.map PyData.int) = 0
  | [] => rfl
  | n :: ns => by
    show max (PyData.depth (.int n)) (PyData.depthAll (ns.map PyData.int)) = 0
    rw [depth_ints ns]
    rfl
theorem shaped_ints (ns : List Int) : SeqAt.shaped (.list (ns.map PyData.int)) = true := by
  have h1 : PyData.canLay0 (.list (ns.map PyData.int)) = true := canLay_ints ns
  have h2 : PyData.depth (.list (ns.map PyData.int)) = 1 := by
    show PyData.depthAll (ns.map PyData.int) + 1 = 1
    rw [depth_ints]
  unfold SeqAt.shaped
  rw [h1, h2]
  rfl
theorem eqv_ints : ∀ (xs ys : List Int), PyData.eqvAll (xs.map PyData.int) (ys.map PyData.int) = decide (xs = ys)
  | [], [] => rfl
  | [], _ :: _ => rfl
  | _ :: _, [] => rfl
  | x :: xs, y :: ys => by
    show (PyData.eqv (.int x) (.int y) && PyData.eqvAll (xs.map PyData.int) (ys.map PyData.int)) = _
    rw [eqv_ints xs ys, Bool.eq_iff_iff]
    show ((x == y) && decide (xs = ys)) = true ↔ _
    simp
theorem eqInts {a b : Addr} {ns ms : List Int} {Q : VK} (h1 : SqL K H a (ns.map V.int)) (h2 : SqL K H b (ms.map V.int)) (q : Q (.bl (decide (ns = ms))) H) : rEqD K (.ref a) (.ref b) H Q := by
  refine ⟨_, _, .lst h1 (dpAll_ints ns), .lst h2 (dpAll_ints ms), shaped_ints ns, shaped_ints ms, ?_⟩
  show Q (.bl (PyData.eqvAll (ns.map PyData.int) (ms.map PyData.int))) H
  rw [eqv_ints]
  exact q
theorem neInts {a b : Addr} {ns ms : List Int} {Q : VK} (h1 : SqL K H a (ns.map V.int)) (h2 : SqL K H b (ms.map V.int)) (q : Q (.bl (!decide (ns = ms))) H) : rNeD K (.ref a) (.ref b) H Q := by
  refine ⟨_, _, .lst h1 (dpAll_ints ns), .lst h2 (dpAll_ints ms), shaped_ints ns, shaped_ints ms, ?_⟩
  show Q (.bl (!PyData.eqvAll (ns.map PyData.int) (ms.map PyData.int))) H
  rw [eqv_ints]
  exact q
/-! ### comprehensions -/
def Lc (J : It) (g : TG) (tt : TT) (te : TE) (vs : List Nat) (σ : L2.St) (H1 : Hp) (Q : VK) : Prop := ∀ D, H1 D = none → ∃ W : Nat → Nat → Hp → Prop, (∃ m, W 0 m (upd H1 D (.lst []))) ∧ ∀ i m H, W i m H →
  (J.stop i H ∧ Q (.ref D) H) ∨ (J.go i H ∧ ∃ Nx : Hp → Prop, (∀ H', Nx H' → ∃ m', m' < m ∧ W (i + 1) m' H') ∧ ∀ x H', J.yld i H x H' → g x (wipe σ vs) H' fun σ2 H2 => wipe σ2 vs = wipe σ vs ∧ tt σ2 H2 fun b H3 =>
    if b = true then te σ2 H3 fun y H4 => ∃ acc, H4 D = some (.lst acc) ∧ acc.length < sizeLine ∧ Nx (upd H4 D (.lst (acc ++ [y]))) else Nx H3)
theorem lc {wi : TI} {g : TG} {tt : TT} {te : TE} {vs : List Nat} {Q : VK} (h : wi σ H fun J H1 => Lc J g tt te vs σ H1 Q) : tLc wi g tt te vs σ H Q := h
theorem istr {te : TE} {R : It → Hp → Prop} (h : te σ H fun v H1 => ∃ x, v = .str x ∧ R (Its x) H1) : iStr te σ H R := h
theorem strE {z : Str} {P : Str → Prop} (h : P z) : ∃ x, V.str z = .str x ∧ P x := ⟨z, rfl, h⟩
theorem tyes {Q : Bool → Hp → Prop} (h : Q true H) : tYes σ H Q := h
/-- the state of a comprehension: the list at D holds acc, all ahead of it stands -/
def LcP (D : Addr) (H1 : Hp) (R : Nat → List V → Hp → Prop) : Nat → Hp → Prop := fun i H => ∃ acc, H D = some (.lst acc) ∧ Same H1 H ∧ R i acc H
def LcPush (D : Addr) (H1 : Hp) (R : Nat → List V → Hp → Prop) (i : Nat) (y : V) (H4 : Hp) : Prop := ∃ acc, H4 D = some (.lst acc) ∧ acc.length < sizeLine ∧ LcP D H1 R (i + 1) (upd H4 D (.lst (acc ++ [y])))
theorem lcPush {D : Addr} {H1 H4 : Hp} {R : Nat → List V → Hp → Prop} {i : Nat} {y : V} {acc : List V} (hD : H4 D = some (.lst acc)) (nD : H1 D = none) (s1 : Same H1 H4) (hz : acc.length < sizeLine) (r : ∀ G : Hp, G D = some (.lst (acc ++ [y])) → (∀ b, b ≠ D → G b = H4 b) → R (i + 1) (acc ++ [y]) G) : LcPush D H1 R i y H4 :=
  ⟨acc, hD, hz, acc ++ [y], upd_same, fun b o e => by rw [upd_ne (ne_of_none e nD)]; exact s1 b o e, r _ upd_same fun b hb => upd_ne hb⟩
theorem lcS {J : It} {n : Nat} {G : Hp → Prop} {Y : Nat → Hp → V → Hp → Prop} (w : Walk J n G Y) {g : TG} {tt : TT} {te : TE} {vs : List Nat} {H1 : Hp} {Q : VK} (hG : ∀ H, Same H1 H → G H) (R : Addr → Nat → List V → Hp → Prop)
    (r0 : ∀ (D : Addr) (G : Hp), H1 D = none → G D = some (.lst []) → Same H1 G → R D 0 [] G)
    (hs : ∀ (D : Addr) i x H H' acc, H1 D = none → i < n → H D = some (.lst acc) → Same H1 H → R D i acc H → Y i H x H' → g x (wipe σ vs) H' fun σ2 H2 => wipe σ2 vs = wipe σ vs ∧ tt σ2 H2 fun b H3 =>
      if b = true then te σ2 H3 fun y H4 => LcPush D H1 (R D) i y H4 else LcP D H1 (R D) (i + 1) H3)
    (hd : ∀ (D : Addr) acc H, H1 D = none → H D = some (.lst acc) → Same H1 H → R D n acc H → Q (.ref D) H) : Lc J g tt te vs σ H1 Q := fun D nD =>
  lc_it w (LcP D H1 (R D)) ⟨[], upd_same, same_upd nD, r0 D _ nD upd_same (same_upd nD)⟩ (fun i H hi ⟨acc, h1, h2, h3⟩ => hG H h2)
    (fun i x H H' hi ⟨acc, h1, h2, h3⟩ y => hs D i x H H' acc nD hi h1 h2 h3 y) (fun H ⟨acc, h1, h2, h3⟩ => hd D acc H nD h1 h2 h3)
/-- .. over a row: a list or a tuple -/
theorem lcRow {a : Addr} {xs : List V} {ta : TE} {g : TG} {tt : TT} {te : TE} {vs : List Nat} {H1 : Hp} {Q : VK} (ea : ∀ Q : VK, Q (.ref a) H1 → ta σ H1 Q) (hr : Ru.SqR K H1 a xs) (R : Addr → Nat → List V → Hp → Prop)
    (r0 : ∀ (D : Addr) (G : Hp), H1 D = none → G D = some (.lst []) → Same H1 G → R D 0 [] G)
    (hs : ∀ (D : Addr) i x H acc, H1 D = none → i < xs.length → H D = some (.lst acc) → Same H1 H → R D i acc H → xs[i]? = some x → g x (wipe σ vs) H fun σ2 H2 => wipe σ2 vs = wipe σ vs ∧ tt σ2 H2 fun b H3 =>
      if b = true then te σ2 H3 fun y H4 => LcPush D H1 (R D) i y H4 else LcP D H1 (R D) (i + 1) H3)
    (hd : ∀ (D : Addr) acc H, H1 D = none → H D = some (.lst acc) → Same H1 H → R D xs.length acc H → Q (.ref D) H) : (fun σ H R => iList K ta σ H R ∨ iTup K ta σ H R) σ H1 fun J H1 => Lc J g tt te vs σ H1 Q := by
  rcases hr with hr | hr
  · exact .inl (ea _ ⟨a, rfl, ⟨_, hr⟩, lcS walk_list (fun _ s => s.seq hr) R r0 (fun D i x H H' acc nD hi hD sm r ⟨e, hx⟩ => by cases e; exact hs D i x H acc nD hi hD sm r hx) hd⟩)
  · exact .inr (ea _ ⟨a, rfl, ⟨_, hr⟩, lcS walk_tup (fun _ s => Ru.same_tup s hr) R r0 (fun D i x H H' acc nD hi hD sm r ⟨e, hx⟩ => by cases e; exact hs D i x H acc nD hi hD sm r hx) hd⟩)
theorem wipeE {A B : L2.St} {P : Prop} (e : A = B) (h : P) : A = B ∧ P := ⟨e, h⟩
/-! ### list(range(..)) -/
theorem lstRg {te : L2.St → Hp → (Int → Int → Hp → Prop) → Prop} {Q : VK} (h : te σ H fun a b H1 => RgOk a b ∧ NewQ (.lst (rgV a b)) Q H1) : tLstRg te σ H Q := h
theorem tupRg {te : L2.St → Hp → (Int → Int → Hp → Prop) → Prop} {Q : VK} (h : te σ H fun a b H1 => RgOk a b ∧ NewQ (.tup (rgV a b)) Q H1) : tTupRg te σ H Q := h
theorem rg1 {ta : TE} {Q : Int → Int → Hp → Prop} (h : ta σ H fun x H1 => ∃ n, x = .int n ∧ Q 0 n H1) : tRg1 ta σ H Q := h
theorem rg2 {ta tb : TE} {Q : Int → Int → Hp → Prop} (h : ta σ H fun x H1 => tb σ H1 fun y H2 => ∃ i j, x = .int i ∧ y = .int j ∧ Q i j H2) : tRg2 ta tb σ H Q := h
theorem intE2 {i j : Int} {P : Int → Int → Prop} (h : P i j) : ∃ a b, V.int i = .int a ∧ V.int j = .int b ∧ P a b := ⟨i, j, rfl, rfl, h⟩
theorem rgV0 (n : Nat) : rgV 0 (n : Int) = ((List.range n).map fun i : Nat => (i : Int)).map V.int := by
  unfold rgV
  rw [List.map_map, show ((n : Int) - 0).toNat = n by omega]
  refine List.map_congr_left fun i _ => ?_
  show V.int (0 + (i : Nat)) = V.int (i : Int)
  rw [Int.zero_add]
/-! ### dicts with ints as keys -/
theorem dnew {Q : VK} (h : ∀ (p : Addr) (G : Hp), H p = none → G p = some (.dK []) → Same H G → Q (.ref p) G) : tDNewK σ H Q :=
  fun p hp => h p _ hp upd_same fun b u e => by rw [upd_ne (ne_of_none e hp)]; exact e
theorem dgetH {td ty : TE} {Q : VK} (h : td σ H fun x H1 => ty σ H1 fun y H2 => ∃ a v, x = .ref a ∧ DGet H2 a y (some v) ∧ Q v H2) : tDGet td ty σ H Q := h
theorem dget {a : Addr} {kvs : List (Key × V)} {k : Int} {v : V} {P : V → Prop} (e : H a = some (.dK kvs)) (hv : valV kvs (.inl k) = some v) (q : P v) : ∃ a' v', V.ref a = .ref a' ∧ DGet H a' (.int k) (some v') ∧ P v' :=
  ⟨a, v, rfl, hv ▸ DGet.k (k := .inl k) e, q⟩
theorem dgetF {a : Addr} {o : Obj} {kvs : List (Key × V)} {k : Int} {v : V} {P : V → Prop} (e : H a = some (.frz o (.dK kvs))) (hv : valV kvs (.inl k) = some v) (q : P v) : ∃ a' v', V.ref a = .ref a' ∧ DGet H a' (.int k) (some v') ∧ P v' :=
  ⟨a, v, rfl, .inl ⟨kvs, .inl k, .inr ⟨o, e⟩, rfl, hv.symm⟩, q⟩
theorem dinH {ty td : TE} {Q : VK} (h : ty σ H fun y H1 => td σ H1 fun x H2 => ∃ a o, x = .ref a ∧ DGet H2 a y o ∧ Q (.bl o.isSome) H2) : tDIn ty td σ H Q := h
theorem dninH {ty td : TE} {Q : VK} (h : ty σ H fun y H1 => td σ H1 fun x H2 => ∃ a o, x = .ref a ∧ DGet H2 a y o ∧ Q (.bl (!o.isSome)) H2) : tDNotIn ty td σ H Q := h
theorem dany {a : Addr} {kvs : List (Key × V)} {k : Int} {P : Option V → Prop} (e : H a = some (.dK kvs)) (q : P (valV kvs (.inl k))) : ∃ a' o, V.ref a = .ref a' ∧ DGet H a' (.int k) o ∧ P o :=
  ⟨a, _, rfl, DGet.k (k := .inl k) e, q⟩
theorem dput {a : Addr} {kvs : List (Key × V)} {k : Int} {v : V} {Q : Hp → Prop} (e : H a = some (.dK kvs)) (hl : kvs.length < sizeLine) (h : ∀ G : Hp, G a = some (.dK (putK kvs (.inl k) v)) → (∀ b, b ≠ a → G b = H b) → Q G) : rSetD (.ref a) (.int k) v H Q :=
  ⟨a, _, rfl, DPut.k (k := .inl k) e hl, h _ upd_same fun b hb => upd_ne hb⟩
theorem dget1H {td ty : TE} {Q : VK} (h : td σ H fun x H1 => ∃ a, x = .ref a ∧ IsD H1 a ∧ ty σ H1 fun y H2 => ∃ o, DGet H2 a y o ∧ Q (o.getD .non) H2) : tDGet1 td ty σ H Q := h
theorem isD {a : Addr} {kvs : List (Key × V)} {P : Addr → Prop} (e : H a = some (.dK kvs)) (q : P a) : ∃ a', V.ref a = .ref a' ∧ IsD H a' ∧ P a' := ⟨a, rfl, .inl ⟨kvs, .inl e⟩, q⟩
theorem dgetO {a : Addr} {kvs : List (Key × V)} {k : Int} {P : Option V → Prop} (e : H a = some (.dK kvs)) (q : P (valV kvs (.inl k))) : ∃ o, DGet H a (.int k) o ∧ P o := ⟨_, DGet.k (k := .inl k) e, q⟩
/-- a for over the keys of a dict that is written nowhere in it -/
theorem forD {td : TE} {g : TG} {tb : TS} {a : Addr} {kvs : List (Key × V)} (hd : H a = some (.dK kvs)) (et : ∀ (H1 : Hp) (Q : VK), Q (.ref a) H1 → td σ H1 Q) (Pv : Nat → L2.St → Hp → Prop)
    (h0 : ∀ od, Pv 0 σ (upd H a (.frz od (.dK kvs)))) (hs : ∀ od i k v σ H, kvs[i]? = some (k, v) → H a = some (.frz od (.dK kvs)) → Pv i σ H → g (kV k) σ H fun σ2 H2 => tb { nx := fun σ' H' => H' a = some (.frz od (.dK kvs)) ∧ Pv (i + 1) σ' H', rt := fun v H' => H' a = some (.frz od (.dK kvs)) ∧ D.rt v (upd H' a (.dK kvs)), bk := fun σ' H' => H' a = some (.frz od (.dK kvs)) ∧ D.nx σ' (upd H' a (.dK kvs)), ct := fun σ' H' => H' a = some (.frz od (.dK kvs)) ∧ Pv (i + 1) σ' H' } σ2 H2)
    (hn : ∀ od σ H, H a = some (.frz od (.dK kvs)) → Pv kvs.length σ H → D.nx σ (upd H a (.dK kvs))) : tLock (tFor (iKeys td) g tb) D σ H := by
  refine ⟨a, .dK kvs, hd, trivial, fun od => ?_⟩
  refine et _ _ ⟨a, od, rfl, .inl ⟨kvs, upd_same, ?_⟩⟩
  exact for_it walk_keys (fun i σ H => H a = some (.frz od (.dK kvs)) ∧ Pv i σ H) ⟨upd_same, h0 od⟩ (fun i σ H _ h => h.1)
    (fun i x σ H H' hi ⟨h1, h2⟩ ⟨e, k, v, hk, hx⟩ => by cases e; cases hx; exact hs od i k v σ H hk h1 h2) (fun σ H ⟨h1, h2⟩ => ⟨h1, hn od σ H h1 h2⟩)
def nListD : List V → Hp → VK → Prop := fun xs H Q => ∃ p kvs, xs = [.ref p] ∧ H p = some (.dK kvs) ∧ ∀ q, H q = none → Q (.ref q) (upd H q (.lst (kvs.map fun kv => kV kv.1)))
theorem listD {a : Addr} {kvs : List (Key × V)} {Q : VK} (e : H a = some (.dK kvs)) (h : NewQ (.lst (kvs.map fun kv => kV kv.1)) Q H) : rListD [.ref a] H Q := ⟨a, kvs, rfl, e, h⟩
/-! ### joins -/
theorem m1 {r : V → List V → Hp → VK → Prop} {to te : TE} {Q : VK} (h : to σ H fun x H1 => (∃ a, x = .str a) ∧ te σ H1 fun y H2 => r x [y] H2 Q) : tM1 r to te σ H Q := h
theorem strX {a : Str} {R : Prop} (h : R) : (∃ b, V.str a = .str b) ∧ R := ⟨⟨a, rfl⟩, h⟩
theorem join {a : Str} {p : Addr} {ys : List Str} {Q : VK} (hp : SqL K H p (ys.map V.str) ∨ SqT K H p (ys.map V.str)) (hz : (ys.map (·.length)).sum + ys.length * a.length ≤ 16777216) (h : Q (.str (Txt.join a ys)) H) :
    ∃ a' p', ∃ ys' : List Str, V.str a = .str a' ∧ [V.ref p] = [.ref p'] ∧ (SqL K H p' (ys'.map V.str) ∨ SqT K H p' (ys'.map V.str)) ∧ (ys'.map (·.length)).sum + ys'.length * a'.length ≤ 16777216 ∧ Q (.str (Txt.join a' ys')) H := ⟨a, p, ys, rfl, rfl, hp, hz, h⟩
/-! ### own objects -/
def FldG (K : PySem.W.Frag) (f : Str) : V → Hp → VK → Prop := fun x H1 Q => ∃ a C dx fs v, x = .ref a ∧ H1 a = some (.ins C dx fs) ∧ Cls K C ∧ NoAttr K C f ∧ fs.lookup f = some v ∧ Q v H1
theorem fldH {ta : TE} {f : Str} {Q : VK} (h : ta σ H fun x H1 => FldG K f x H1 Q) : tFld K ta f σ H Q := h
theorem fld {f : Str} {a C dx : Addr} {fs : List (Str × V)} {v : V} {Q : VK} (e : H a = some (.ins C dx fs)) (c : Cls K C) (n : NoAttr K C f) (l : fs.lookup f = some v) (q : Q v H) : FldG K f (.ref a) H Q := ⟨a, C, dx, fs, v, rfl, e, c, n, l, q⟩
def FldS (K : PySem.W.Frag) (f : Str) (y : V) : V → Hp → (Hp → Prop) → Prop := fun x H2 Q => ∃ a C dx fs, x = .ref a ∧ H2 a = some (.ins C dx fs) ∧ Cls K C ∧ NoAttr K C f ∧ fs.length < 1000 ∧ Q (upd H2 a (.ins C dx (putF f y fs)))
theorem sfldH {ta tv : TE} {f : Str} (h : tv σ H fun y H1 => ta σ H1 fun x H2 => FldS K f y x H2 (D.nx σ)) : sFld K ta tv f D σ H := h
theorem sfld {f : Str} {a C dx : Addr} {fs fs' : List (Str × V)} {y : V} {Q : Hp → Prop} (e : H a = some (.ins C dx fs)) (c : Cls K C) (n : NoAttr K C f) (l : fs.length < 1000) (hf : putF f y fs = fs') (q : ∀ G : Hp, G a = some (.ins C dx fs') → (∀ b, b ≠ a → G b = H b) → Q G) : FldS K f y (.ref a) H Q :=
  ⟨a, C, dx, fs, rfl, e, c, n, l, hf ▸ q _ upd_same fun b hb => upd_ne hb⟩
def MkG (C : Addr) (sp : Sp) (dvs : List V) (E : XK) (vs : List V) (H1 : Hp) (Q : VK) : Prop := ∀ x dx, H1 x = none → H1 dx = none → dx ≠ x → sp (.ref x :: (vs ++ dvs)) (upd (upd H1 dx (.own x)) x (.ins C dx [])) (fun v H2 => v = .non ∧ Q (.ref x) H2) E
theorem mkH {C : Addr} {sp : Sp} {dvs : List V} {E : XK} {t : TA} {Q : VK} (h : t σ H fun vs H1 => MkG C sp dvs E vs H1 Q) : tMake C sp dvs E t σ H Q := h
theorem mk {C : Addr} {sp : Sp} {dvs : List V} {E : XK} {vs : List V} {Q : VK} (h : ∀ (x dx : Addr) (G : Hp), H x = none → H dx = none → dx ≠ x → G x = some (.ins C dx []) → Same H G → (∀ b, b ≠ x → b ≠ dx → G b = H b) → sp (.ref x :: (vs ++ dvs)) G (fun v H2 => v = .non ∧ Q (.ref x) H2) E) : MkG C sp dvs E vs H Q := fun x dx hx hd hne =>
  h x dx _ hx hd hne upd_same (fun b o e => by rw [upd_ne (ne_of_none e hx), upd_ne (ne_of_none e hd)]; exact e) fun b h1 h2 => by rw [upd_ne h1, upd_ne h2]
def MethG (C : Addr) (m : Str) (x : V) (H : Hp) (Q : Prop) : Prop := ∃ a dx fs, x = .ref a ∧ H a = some (.ins C dx fs) ∧ fs.lookup m = none ∧ Q
theorem methH {C : Addr} {m : Str} {sp : Sp} {dvs : List V} {E : XK} {ta : TE} {t : TA} {Q : VK} (h : ta σ H fun x H1 => MethG C m x H1 (t σ H1 fun vs H2 => sp (x :: (vs ++ dvs)) H2 Q E)) : tMeth C m sp dvs E ta t σ H Q := h
theorem meth {C : Addr} {m : Str} {a dx : Addr} {fs : List (Str × V)} {Q : Prop} (e : H a = some (.ins C dx fs)) (l : fs.lookup m = none) (q : Q) : MethG C m (.ref a) H Q := ⟨a, dx, fs, rfl, e, l, q⟩
/-! ### isinstance -/
theorem isi {x : V} {a b : String} {r : Bool} {Q : VK} (ht : TyX K H x (.type a)) (h : kitB a b = some r) (q : Q (.bl r) H) : rIsi K [x, .ty b] H Q := ⟨_, _, _, _, r, rfl, .ty b, ht, kit_ty h, q⟩
theorem isiStr {z : Str} {Q : VK} (q : Q (.bl true) H) : rIsi K [.str z, .ty "str"] H Q := isi (.base (.str z)) (by decide +kernel) q
theorem isiB {z : Bool} {Q : VK} (q : Q (.bl true) H) : rIsi K [.bl z, .ty "bool"] H Q := isi (.base (.bl z)) (by decide +kernel) q
theorem isiI {z : Int} {Q : VK} (q : Q (.bl true) H) : rIsi K [.int z, .ty "int"] H Q := isi (.base (.int z)) (by decide +kernel) q
theorem isiIB {z : Int} {Q : VK} (q : Q (.bl false) H) : rIsi K [.int z, .ty "bool"] H Q := isi (.base (.int z)) (by decide +kernel) q
end Rd
namespace W
open PySem PySem.Spec PyProof.Rows L2
theorem kit_self {K : PySem.W.Frag} {C : Addr} : PySem.W.kitOne K (.ref C) (.ref C) = some true := by
  unfold PySem.W.kitOne
  simp
/-- what isinstance asks of an own class -/
structure OwnTy (K : PySem.W.Frag) (C : Addr) : Prop where
  ha : PySem.W.findIn K (.ref C) "__class__" = some (some (.builtin "object.__class__"))
  hn : PySem.W.specialIn K (.builtin "object.__class__") "__get__" = some (some (.builtin "getset_descriptor.__get__"))
  htk : PySem.W.takesIn K (.builtin "object.__class__") = some true
  hm : PySem.W.mroIn K C (.type "object") = some true
  me : PySem.W.kitOne K (.ref C) (.ref C) = some true
theorem isiOwn {K : PySem.W.Frag} {H : Hp} {a C dx : Addr} {fs : List (Str × V)} {Q : VK} (c : Cls K C) (o : OwnTy K C) (e : H a = some (.ins C dx fs)) (q : Q (.bl true) H) : rIsi K [.ref a, .ref C] H Q :=
  ⟨_, _, _, _, true, rfl, .own C, .base (.ins e c o.ha o.hn o.htk o.hm), o.me, q⟩
end W
/-! ### letters -/
namespace Lt
open PySem PySem.Spec PyProof.Rows L2
def Abc : Str := "abcdefghijklmnopqrstuvwxyz"
def Let (z : Str) : Prop := ∀ c ∈ z.cps.toList, c ∈ Abc.cps.toList
theorem Let.app {a b : Str} (x : Let a) (y : Let b) : Let (a ++ b) := fun c h => by
  have : c ∈ a.cps.toList ++ b.cps.toList := by
    rw [← Array.toList_append]
    exact h
  exact (List.mem_append.mp this).elim (x c) (y c)
theorem len_app (a b : Str) : (a ++ b).length = a.length + b.length := Array.size_append
theorem Let.cut {z : Str} (x : Let z) (lo hi : Option Int) : Let (cutS z lo hi) := fun c h => x c (List.mem_of_mem_drop (List.mem_of_mem_take (show c ∈ (z.cps.toList.drop _).take _ from by simpa [cutS] using h)))
theorem Let.one {c : Nat} (h : c ∈ Abc.cps.toList) : Let ⟨#[c]⟩ := fun d hd => by
  have : d = c := by simpa using hd
  exact this ▸ h
theorem Let.empty : Let "" := fun c h => by exact absurd h (by decide +revert)
theorem Let.ok {z : Str} (x : Let z) : PyData.strOk z = true := by
  unfold PyData.strOk
  rw [Array.all_eq_true']
  intro c hc
  have h := x c (by simpa using hc)
  have : ∀ c ∈ Abc.cps.toList, decide (c < 0x110000) = true := by decide +kernel
  exact this c h
theorem Let.char {z : Str} (x : Let z) {c : Nat} {i : Nat} (h : z.cps.toList[i]? = some c) : c ∈ Abc.cps.toList := x c (List.mem_of_getElem? h)
theorem cut_len {z : Str} {a b : Nat} (h : a ≤ b) (hb : b ≤ z.length) : (cutS z (some (a : Int)) (some (b : Int))).length = b - a := by
  show (((z.cps.toList.drop (HT.sIx z.length 0 (some (a : Int)))).take (HT.sIx z.length z.length (some (b : Int)) - HT.sIx z.length 0 (some (a : Int)))).toArray).size = b - a
  rw [List.size_toArray, List.length_take, List.length_drop, Array.length_toList, HT.sIx_nat, HT.sIx_nat]
  unfold Str.length at hb ⊢
  omega
theorem cut_lenI {z : Str} {a b : Int} (h0 : 0 ≤ a) (h : a ≤ b) (hb : b ≤ z.length) : ((cutS z (some a) (some b)).length : Int) = b - a := by
  have := cut_len (z := z) (a := a.toNat) (b := b.toNat) (by omega) (by omega)
  rw [show ((a.toNat : Nat) : Int) = a by omega, show ((b.toNat : Nat) : Int) = b by omega] at this
  omega
theorem cut_from {z : Str} {a : Int} (h0 : 0 ≤ a) (h : a ≤ z.length) : ((cutS z (some a) none).length : Int) = z.length - a := by
  have e : (cutS z (some a) none).length = z.length - a.toNat := by
    show (((z.cps.toList.drop (HT.sIx z.length 0 (some a))).take (HT.sIx z.length z.length none - HT.sIx z.length 0 (some a))).toArray).size = _
    have e1 : HT.sIx z.length 0 (some a) = a.toNat := by
      have := HT.sIx_nat z.length 0 a.toNat
      rw [show ((a.toNat : Nat) : Int) = a by omega] at this
      rw [this]
      omega
    rw [List.size_toArray, List.length_take, List.length_drop, Array.length_toList, e1]
    show min (z.length - a.toNat) (z.cps.size - a.toNat) = _
    unfold Str.length
    omega
  omega
theorem cut_to {z : Str} {b : Int} (h0 : 0 ≤ b) : ((cutS z none (some b)).length : Int) = min b z.length := by
  have e : (cutS z none (some b)).length = min b.toNat z.length := by
    show (((z.cps.toList.drop (HT.sIx z.length 0 none)).take (HT.sIx z.length z.length (some b) - HT.sIx z.length 0 none)).toArray).size = _
    have e1 : HT.sIx z.length z.length (some b) = min b.toNat z.length := by
      have := HT.sIx_nat z.length z.length b.toNat
      rw [show ((b.toNat : Nat) : Int) = b by omega] at this
      exact this
    have e2 : HT.sIx z.length 0 none = 0 := rfl
    rw [List.size_toArray, List.length_take, List.length_drop, Array.length_toList, e1, e2]
    unfold Str.length
    omega
  omega
theorem join_let : ∀ ys : List Str, (∀ y ∈ ys, Let y) → Let (Str.join "" ys) ∧ (Str.join "" ys).length = (ys.map (·.length)).sum
  | [], _ => ⟨fun c h => by exact absurd h (by decide +revert), by decide +kernel⟩
  | [y], h => ⟨h y (by simp), by simp [Str.join]⟩
  | y :: z :: r, h => by
    have ih := join_let (z :: r) fun x hx => h x (List.mem_cons_of_mem _ hx)
    have e : Str.join "" (y :: z :: r) = y ++ "" ++ Str.join "" (z :: r) := rfl
    rw [e]
    refine ⟨((h y List.mem_cons_self).app Let.empty).app ih.1, ?_⟩
    rw [len_app, len_app, ih.2, show (Str.ofString "").length = 0 by decide +kernel]
    show y.length + 0 + _ = (y.length :: (z :: r).map (·.length)).sum
    rw [List.sum_cons]
    rfl
theorem join_one {ys : List Str} {n : Nat} (hl : ys.length = n) (h : ∀ y ∈ ys, Let y ∧ y.length = 1) : Let (Txt.join "" ys) ∧ (Txt.join "" ys).length = n ∧ (ys.map (·.length)).sum = n := by
  have j := join_let ys fun y hy => (h y hy).1
  have e : (ys.map (·.length)).sum = ys.length := by
    clear j hl
    induction ys with
    | nil => rfl
    | cons y r ih => rw [List.map_cons, List.sum_cons, ih fun x hx => h x (List.mem_cons_of_mem _ hx), (h y List.mem_cons_self).2, List.length_cons]; omega
  rw [TL.join_eq]
  exact ⟨j.1, by rw [j.2, e, hl], by rw [e, hl]⟩
theorem ne_of_len {z : Str} (h : 0 < z.length) : ¬ z = "" := fun e => by
  subst e
  exact absurd h (by decide +revert)
theorem len_of_ne {z : Str} (h : ¬ z = "") : 0 < z.length := by
  rcases Nat.eq_zero_or_pos z.length with e | e
  · exfalso
    refine h ?_
    have : z.cps = #[] := Array.eq_empty_of_size_eq_zero e
    cases z
    simp only at this
    subst this
    decide +kernel
  · exact e
/-- a word: some letters, at least one, at most n -/
structure Wd (n : Int) (z : Str) : Prop where
  ok : Let z
  l0 : 1 ≤ z.length
  l1 : (z.length : Int) ≤ n
theorem Wd.mono {n m : Int} {z : Str} (h : Wd n z) (k : n ≤ m) : Wd m z := ⟨h.ok, h.l0, Int.le_trans h.l1 k⟩
theorem Wd.line {n : Int} {z : Str} (h : Wd n z) (k : n ≤ 1000000) : z.length ≤ sizeLine := by
  have := h.l1
  rw [sizeLine_eq]
  omega
end Lt
namespace W
open PySem PySem.Spec PyProof.Rows L2
/-! ### the tape, books -/
def Tape (H : Hp) (t c : Addr) : Prop := ∃ (ns : List Int) (x y z u : Int), t ≠ c ∧ H t = some (.lst [.ref c, .int x, .int y, .int z, .int u]) ∧ H c = some (.lst (ns.map V.int)) ∧ 0 ≤ x ∧ x ≤ ns.length ∧ 0 ≤ z ∧ z < 2147483647
theorem Tape.same {H H' : Hp} {t c : Addr} (h : Tape H t c) (s : Same H H') : Tape H' t c := by
  obtain ⟨ns, x, y, z, u, n, h1, h2, r⟩ := h
  exact ⟨ns, x, y, z, u, n, s _ _ h1, s _ _ h2, r⟩
theorem Tape.off {H H' : Hp} {t c l : Addr} (h : Tape H t c) (h1 : l ≠ t) (h2 : l ≠ c) (e : ∀ b, b ≠ l → H' b = H b) : Tape H' t c := by
  obtain ⟨ns, x, y, z, u, n, g1, g2, r⟩ := h
  exact ⟨ns, x, y, z, u, n, by rw [e t h1.symm]; exact g1, by rw [e c h2.symm]; exact g2, r⟩
theorem Tape.new {H : Hp} {t c l : Addr} (h : Tape H t c) (n : H l = none) : l ≠ t ∧ l ≠ c := by
  obtain ⟨ns, x, y, z, u, _, g1, g2, r⟩ := h
  exact ⟨(ne_of_none g1 n).symm, (ne_of_none g2 n).symm⟩
theorem _root_.Rd.tape_same {H H' : Hp} {t c : Addr} (s : Same H H') (h : Tape H t c) : Tape H' t c := h.same s
theorem _root_.Rd.ntT {H : Hp} {t c l : Addr} (n : H l = none) (h : Tape H t c) : l ≠ t := (h.new n).1
theorem _root_.Rd.ntT' {H : Hp} {t c l : Addr} (n : H l = none) (h : Tape H t c) : l ≠ c := (h.new n).2
/-- some watches: no two alike, at most twelve, each of some letters -/
structure Watches (ws : List Str) : Prop where
  nd : ws.Nodup
  l1 : ws.length ≤ 12
  ok : ∀ z ∈ ws, Lt.Wd 12 z
/-- a book of the watches ws stands at b -/
def BookAt (C : Addr) (H : Hp) (b : Addr) (ws : List Str) : Prop := ∃ dx t, H b = some (.ins C dx [("watches", .ref t)]) ∧ H t = some (.tup (ws.map V.str))
theorem BookAt.same {C : Addr} {H H' : Hp} {b : Addr} {ws : List Str} (h : BookAt C H b ws) (s : Same H H') : BookAt C H' b ws := let ⟨dx, t, h1, h2⟩ := h; ⟨dx, t, s _ _ h1, s _ _ h2⟩
theorem BookAt.but {C t c : Addr} {H H' : Hp} {b : Addr} {ws : List Str} (h : BookAt C H b ws) (tp : Tape H t c) (s : Rd.But t H H') : BookAt C H' b ws := by
  obtain ⟨dx, q, h1, h2⟩ := h
  obtain ⟨ns, x, y, z, u, _, g1, g2, r⟩ := tp
  exact ⟨dx, q, s _ _ (ne_of h1 g1 (fun e => nomatch e)) h1, s _ _ (ne_of h2 g1 (fun e => nomatch e)) h2⟩
theorem snoc_nodup {α : Type} {ws : List α} {y : α} (nd : ws.Nodup) (q : ¬ y ∈ ws) : (ws ++ [y]).Nodup := by
  rw [List.nodup_append]
  exact ⟨nd, by simp, fun x hx z hz e => q (by simp at hz; rw [← hz, ← e]; exact hx)⟩
theorem _root_.Rd.book_same {C : Addr} {H H' : Hp} {b : Addr} {ws : List Str} (s : Same H H') (h : BookAt C H b ws) : BookAt C H' b ws := h.same s
theorem _root_.Rd.book_but {C t c : Addr} {H H' : Hp} {b : Addr} {ws : List Str} (s : Rd.But t H H') (tp : Tape H t c) (h : BookAt C H b ws) : BookAt C H' b ws := h.but tp s
end W
/-! ### what is kept, for the search by hypotheses -/
namespace Rd
open PySem PySem.Spec PyProof.Rows L2
variable {H H' : Hp} {K : PySem.W.Frag}
theorem neN {H : Hp} {a b : Addr} {o : HO} (h' : H b = none) (h : H a = some o) : a ≠ b := ne_of_none h h'
theorem neN' {H : Hp} {a b : Addr} {o : HO} (h' : H b = none) (h : H a = some o) : b ≠ a := (ne_of_none h h').symm
theorem same_tr {H H1 H2 : Hp} (b : Same H1 H2) (a : Same H H1) : Same H H2 := a.trans b
theorem but_tr {t : Addr} {H H1 H2 : Hp} (b : But t H1 H2) (a : But t H H1) : But t H H2 := a.trans b
theorem but_sm {t : Addr} {H H1 H2 : Hp} (b : Same H1 H2) (a : But t H H1) : But t H H2 := a.same b
theorem same_of2 {l : Addr} {H0 H H' : Hp} (off : ∀ b, b ≠ l → H' b = H b) (n : H0 l = none) (s : Same H0 H) : Same H0 H' := fun b o e => by rw [off b (ne_of_none e n)]; exact s b o e
theorem but_of2 {t l : Addr} {H0 H H' : Hp} (off : ∀ b, b ≠ l → H' b = H b) (n : H0 l = none) (s : But t H0 H) : But t H0 H' := fun b o h e => by rw [off b (ne_of_none e n)]; exact s b o h e
theorem at_same {a : Addr} {o : HO} (s : Same H H') (e : H a = some o) : H' a = some o := s a o e
theorem at_but {t a : Addr} {o : HO} (b : But t H H') (n : a ≠ t) (e : H a = some o) : H' a = some o := b a o n e
theorem at_off {l a : Addr} {o : HO} (off : ∀ b, b ≠ l → H' b = H b) (n : a ≠ l) (e : H a = some o) : H' a = some o := by rw [off a n]; exact e
theorem same_off {l : Addr} {H0 : Hp} (s : Same H0 H) (n : H0 l = none) (off : ∀ b, b ≠ l → H' b = H b) : Same H0 H' := fun b o e => by rw [off b (ne_of_none e n)]; exact s b o e
theorem but_off' {t l : Addr} {H0 : Hp} (s : But t H0 H) (n : H0 l = none) (off : ∀ b, b ≠ l → H' b = H b) : But t H0 H' := fun b o h e => by rw [off b (ne_of_none e n)]; exact s b o h e
theorem lenS {p : Addr} {ys : List Str} {H : Hp} {Q : VK} (hp : SqL K H p (ys.map V.str) ∨ SqT K H p (ys.map V.str)) (h : Q (.int (ys.length : Nat)) H) : nLen K [.ref p] H Q := ⟨p, _, rfl, hp, by rw [List.length_map]; exact h⟩
theorem lenI {p : Addr} {ys : List Int} {H : Hp} {Q : VK} (hp : SqL K H p (ys.map V.int) ∨ SqT K H p (ys.map V.int)) (h : Q (.int (ys.length : Nat)) H) : nLen K [.ref p] H Q := ⟨p, _, rfl, hp, by rw [List.length_map]; exact h⟩
theorem lenR {p : Addr} {ys : List Addr} {H : Hp} {Q : VK} (hp : SqL K H p (ys.map V.ref) ∨ SqT K H p (ys.map V.ref)) (h : Q (.int (ys.length : Nat)) H) : nLen K [.ref p] H Q := ⟨p, _, rfl, hp, by rw [List.length_map]; exact h⟩
end Rd

/-! Plain law: steps up and down by some lengths between 0 and a last spot. -/
namespace M85

/-- the spots that steps lead to from 0 -/
inductive Reach (ls : List Int) (last : Int) : Int → Prop where
  | zero : Reach ls last 0
  | step {x y l : Int} (h : Reach ls last x) (hl : l ∈ ls) (e : y = x + l ∨ y = x - l) (h0 : 0 ≤ y) (h1 : y ≤ last) : Reach ls last y

/-- led to one another, in the range -/
inductive Conn (ls : List Int) (last : Int) : Int → Int → Prop where
  | refl (x : Int) : Conn ls last x x
  | step {x y z l : Int} (h : Conn ls last x y) (hl : l ∈ ls) (e : z = y + l ∨ z = y - l) (h0 : 0 ≤ z) (h1 : z ≤ last) : Conn ls last x z

theorem Conn.trans {ls : List Int} {last x y z : Int} (a : Conn ls last x y) (b : Conn ls last y z) : Conn ls last x z := by
  induction b with
  | refl => exact a
  | step _ hl e h0 h1 ih => exact .step ih hl e h0 h1

theorem Reach.conn {ls : List Int} {last x y : Int} (a : Reach ls last x) (b : Conn ls last x y) : Reach ls last y := by
  induction b with
  | refl => exact a
  | step _ hl e h0 h1 ih => exact .step ih hl e h0 h1

/-- any two spots of the range that are s apart are led to one another -/
def Dist (ls : List Int) (last s : Int) : Prop := ∀ x, 0 ≤ x → x + s ≤ last → 0 ≤ x + s → x ≤ last → Conn ls last x (x + s) ∧ Conn ls last (x + s) x

theorem Dist.of_mem {ls : List Int} {last l : Int} (hl : l ∈ ls) : Dist ls last l := fun x h0 h1 h2 h3 =>
  ⟨.step (.refl x) hl (.inl rfl) h2 h1, .step (.refl _) hl (.inr (by omega)) h0 h3⟩

theorem Dist.zero {ls : List Int} {last : Int} : Dist ls last 0 := fun x _ _ _ _ => by
  rw [Int.add_zero]
  exact ⟨.refl x, .refl x⟩

theorem Dist.sub {ls : List Int} {last s t : Int} (hs : Dist ls last s) (ht : Dist ls last t) (h0 : 0 ≤ t) (hts : t ≤ s) (h : s + t ≤ last) : Dist ls last (s - t) := by
  intro x x0 x1 x2 x3
  by_cases c : x + s ≤ last
  · have a := hs x x0 c (by omega) x3
    have b := ht (x + (s - t)) x2 (by omega) (by omega) x1
    have e : x + (s - t) + t = x + s := by omega
    rw [e] at b
    exact ⟨a.1.trans b.2, b.1.trans a.2⟩
  · have a := ht (x - t) (by omega) (by omega) (by omega) (by omega)
    have b := hs (x - t) (by omega) (by omega) (by omega) (by omega)
    have e1 : x - t + t = x := by omega
    have e2 : x - t + s = x + (s - t) := by omega
    rw [e1] at a
    rw [e2] at b
    exact ⟨a.2.trans b.1, b.2.trans a.1⟩

theorem Dist.mod {ls : List Int} {last : Int} {t : Nat} (ht : Dist ls last t) (t0 : 0 < t) : ∀ s : Nat, Dist ls last s → (s : Int) + t ≤ last → Dist ls last ((s % t : Nat) : Int) := by
  intro s
  induction s using Nat.strongRecOn with
  | _ s ih =>
    intro hs h
    by_cases c : t ≤ s
    · have q := Dist.sub hs ht (by omega) (by omega) h
      have e : (s : Int) - (t : Int) = ((s - t : Nat) : Int) := by omega
      rw [e] at q
      have r := ih (s - t) (by omega) q (by omega)
      rw [Nat.mod_eq_sub_mod c]
      exact r
    · rw [Nat.mod_eq_of_lt (by omega)]
      exact hs

theorem Dist.gcd {ls : List Int} {last : Int} : ∀ (t s : Nat), Dist ls last t → Dist ls last s → (s : Int) + t ≤ last → Dist ls last ((Nat.gcd t s : Nat) : Int) := by
  intro t
  induction t using Nat.strongRecOn with
  | _ t ih =>
    intro s ht hs h
    by_cases c : t = 0
    · subst c
      rw [Nat.gcd_zero_left]
      exact hs
    · have hp : 0 < t := by omega
      rw [Nat.gcd_rec]
      have hm := Nat.mod_lt s hp
      have q := ih (s % t) hm t (Dist.mod ht hp s hs h) ht (by
        have : s % t ≤ s := Nat.mod_le s t
        omega)
      exact q

theorem Dist.mul {ls : List Int} {last : Int} {g : Nat} (hg : Dist ls last g) : ∀ k : Nat, ((k * g : Nat) : Int) ≤ last → Conn ls last 0 ((k * g : Nat) : Int) := by
  intro k
  induction k with
  | zero =>
    intro _
    rw [Nat.zero_mul]
    exact .refl _
  | succ k ih =>
    intro h
    have e : (((k + 1) * g : Nat) : Int) = ((k * g : Nat) : Int) + (g : Int) := by
      rw [Nat.succ_mul]
      omega
    rw [e] at h ⊢
    exact (ih (by omega)).trans (hg _ (by omega) h (by omega) (by omega)).1

/-- the common divisor, as both programs fold it -/
def gcdL (ls : List Int) : Nat := ls.foldl (fun g l => Nat.gcd l.natAbs g) 0

theorem foldl_gcd_dvd (ls : List Int) : ∀ g : Nat, (ls.foldl (fun g l => Nat.gcd l.natAbs g) g) ∣ g ∧ ∀ l ∈ ls, ((ls.foldl (fun g l => Nat.gcd l.natAbs g) g : Nat) : Int) ∣ l := by
  induction ls with
  | nil => exact fun g => ⟨Nat.dvd_refl g, fun l h => by simp at h⟩
  | cons a r ih =>
    intro g
    have q := ih (Nat.gcd a.natAbs g)
    refine ⟨Nat.dvd_trans q.1 (Nat.gcd_dvd_right _ _), fun l h => ?_⟩
    rcases List.mem_cons.mp h with rfl | h
    · exact Int.dvd_natAbs.mp (Int.natCast_dvd_natCast.mpr (Nat.dvd_trans q.1 (Nat.gcd_dvd_left _ _)))
    · exact q.2 l h

theorem gcdL_dvd {ls : List Int} {l : Int} (h : l ∈ ls) : ((gcdL ls : Nat) : Int) ∣ l := (foldl_gcd_dvd ls 0).2 l h

theorem Reach.dvd {ls : List Int} {last x : Int} (h : Reach ls last x) : ((gcdL ls : Nat) : Int) ∣ x := by
  induction h with
  | zero => exact Int.dvd_zero _
  | step _ hl e _ _ ih =>
    rcases e with rfl | rfl
    · exact Int.dvd_add ih (gcdL_dvd hl)
    · exact Int.dvd_sub ih (gcdL_dvd hl)

theorem Reach.range {ls : List Int} {last x : Int} (hl : 0 ≤ last) (h : Reach ls last x) : 0 ≤ x ∧ x ≤ last := by
  cases h with
  | zero => exact ⟨Int.le_refl _, hl⟩
  | step _ _ _ h0 h1 => exact ⟨h0, h1⟩

/-- the sum of any two of some lengths, at two places, is at most n -/
def Pairs (ls : List Int) (n : Int) : Prop := ls.Pairwise fun a b => a + b ≤ n

theorem fold_dist {all : List Int} {last : Int} : ∀ (ls : List Int) (g : Nat), (∀ l ∈ ls, l ∈ all ∧ 0 < l) → Dist all last g → ls.Pairwise (fun a b => a + b ≤ last) → (g = 0 ∨ ∃ d : Int, (g : Int) ≤ d ∧ ∀ l ∈ ls, d + l ≤ last) →
    Dist all last ((ls.foldl (fun g l => Nat.gcd l.natAbs g) g : Nat) : Int) := by
  intro ls
  induction ls with
  | nil => exact fun g _ h _ _ => h
  | cons a r ih =>
    intro g hm hg hp hd
    have ha := hm a List.mem_cons_self
    have ea : ((a.natAbs : Nat) : Int) = a := by omega
    have da : Dist all last ((a.natAbs : Nat) : Int) := by rw [ea]; exact Dist.of_mem ha.1
    obtain ⟨hp1, hp2⟩ := List.pairwise_cons.mp hp
    have hle : ((Nat.gcd a.natAbs g : Nat) : Int) ≤ a := by
      have : Nat.gcd a.natAbs g ≤ a.natAbs := Nat.le_of_dvd (by omega) (Nat.gcd_dvd_left _ _)
      omega
    refine ih _ (fun l h => hm l (List.mem_cons_of_mem _ h)) ?_ hp2 (.inr ⟨a, hle, hp1⟩)
    rcases hd with rfl | ⟨d, h1, h2⟩
    · show Dist all last ((Nat.gcd a.natAbs 0 : Nat) : Int)
      rw [Nat.gcd_zero_right]
      exact da
    · have := h2 a List.mem_cons_self
      exact Dist.gcd _ _ da hg (by omega)

/-- THE LAW: from where any two lengths have room, the common divisor alone counts -/
theorem reach_iff {ls : List Int} {last : Int} (hl : 0 ≤ last) (hpos : ∀ l ∈ ls, 0 < l) (hp : ls.Pairwise (fun a b => a + b ≤ last)) : Reach ls last last ↔ ((gcdL ls : Nat) : Int) ∣ last := by
  refine ⟨fun h => h.dvd, fun h => ?_⟩
  have D : Dist ls last ((gcdL ls : Nat) : Int) := fold_dist ls 0 (fun l h => ⟨h, hpos l h⟩) (by simpa using Dist.zero) hp (.inl rfl)
  obtain ⟨k, hk⟩ := h
  have e : last = ((k.toNat * gcdL ls : Nat) : Int) := by
    by_cases c : 0 ≤ k
    · have : ((k.toNat : Nat) : Int) = k := by omega
      rw [Int.natCast_mul, this, Int.mul_comm]
      exact hk
    · have h1 : ((gcdL ls : Nat) : Int) * k ≤ 0 := Int.mul_nonpos_of_nonneg_of_nonpos (by omega) (by omega)
      have h0 : last = 0 := by omega
      have k0 : k.toNat = 0 := by omega
      rw [k0, Nat.zero_mul, h0]
      rfl
  have c := Dist.mul D k.toNat (by omega)
  rw [← e] at c
  exact Reach.zero.conn c

theorem Reach.mono {ls ms : List Int} {last x : Int} (h : Reach ls last x) (hs : ∀ l ∈ ls, l ∈ ms) : Reach ms last x := by
  induction h with
  | zero => exact .zero
  | step _ hl e h0 h1 ih => exact .step ih (hs _ hl) e h0 h1

/-! ### the greatest two of a sorted row -/
theorem pair_le {x y a b : Int} {s rest : List Int} (hp : (x :: y :: rest).Perm (s ++ [b, a])) (hs : (s ++ [b, a]).Pairwise (· ≤ ·)) : x + y ≤ b + a := by
  have hsp := List.pairwise_append.mp hs
  have hba : b ≤ a := by
    have := hsp.2.1
    simp at this
    exact this
  have hsb : ∀ z ∈ s, z ≤ b := fun z hz => hsp.2.2 z hz b (by simp)
  have hx : x ∈ s ++ [b, a] := hp.mem_iff.mp List.mem_cons_self
  have hy : y ∈ s ++ [b, a] := hp.mem_iff.mp (List.mem_cons_of_mem _ List.mem_cons_self)
  have top : ∀ z ∈ s ++ [b, a], z ≤ a := fun z hz => by
    rcases List.mem_append.mp hz with h | h
    · have := hsb z h; omega
    · simp at h
      rcases h with rfl | rfl <;> omega
  have xa := top x hx
  have ya := top y hy
  by_cases c1 : x ≤ b
  · omega
  · by_cases c2 : y ≤ b
    · omega
    · -- both above b: both are a, at two places
      exfalso
      have ex : ∀ z ∈ s ++ [b, a], b < z → z = a := fun z hz hb => by
        rcases List.mem_append.mp hz with h | h
        · have := hsb z h; omega
        · simp at h
          rcases h with rfl | rfl
          · omega
          · rfl
      have e1 := ex x hx (by omega)
      have e2 := ex y hy (by omega)
      rw [e1, e2] at hp
      have q := hp.count_eq a
      have hs0 : s.count a = 0 := List.count_eq_zero.mpr fun h => by have := hsb a h; omega
      have hb : ¬ b = a := by omega
      simp [List.count_append, List.count_cons, hs0, hb] at q

theorem pairs_of_sorted {ls s : List Int} {a b : Int} (hp : (s ++ [b, a]).Perm ls) (hs : (s ++ [b, a]).Pairwise (· ≤ ·)) {n : Int} (hn : b + a ≤ n) : ls.Pairwise fun x y => x + y ≤ n := by
  rw [List.pairwise_iff_forall_sublist]
  intro x y hxy
  obtain ⟨rest, hr⟩ := hxy.exists_perm_append
  have := pair_le ((hp.trans hr).symm) hs
  omega

end M85

namespace M85
/-- what a flood knows: the marks and the spots found -/
structure Good (ls : List Int) (last : Int) (met : List Bool) (found : List Int) : Prop where
  l0 : 0 ≤ last
  len : met.length = last.toNat + 1
  mem : ∀ s : Nat, met[s]? = some true ↔ (s : Int) ∈ found
  rng : ∀ s ∈ found, 0 ≤ s ∧ s ≤ last
  reach : ∀ s ∈ found, Reach ls last s
  zero : (0 : Int) ∈ found
  cnt : found.length = met.count true

theorem count_set_true {l : List Bool} {n : Nat} (h : l[n]? = some false) : (l.set n true).count true = l.count true + 1 := by
  induction l generalizing n with
  | nil => simp at h
  | cons a r ih =>
    cases n with
    | zero =>
      simp at h
      subst h
      simp
    | succ n =>
      simp at h
      simp [List.count_cons, ih h]
      omega

theorem Good.start {ls : List Int} {last : Int} (h : 0 ≤ last) : Good ls last ((List.replicate (last.toNat + 1) false).set 0 true) [0] := by
  refine ⟨h, by simp, fun s => ?_, fun s hs => ?_, fun s hs => ?_, by simp, ?_⟩
  · cases s with
    | zero => simp [List.replicate_succ]
    | succ n =>
      simp [List.replicate_succ, List.getElem?_replicate]
      omega
  · simp at hs; subst hs; exact ⟨Int.le_refl _, h⟩
  · simp at hs; subst hs; exact .zero
  · rw [List.replicate_succ]
    simp [List.count_replicate]

theorem Good.le {ls : List Int} {last : Int} {met : List Bool} {found : List Int} (g : Good ls last met found) : found.length ≤ last.toNat + 1 := by
  rw [g.cnt, ← g.len]
  exact List.count_le_length

theorem Good.at {ls : List Int} {last : Int} {met : List Bool} {found : List Int} (g : Good ls last met found) {t : Int} (h0 : 0 ≤ t) (h1 : t ≤ last) : ∃ b, met[t.toNat]? = some b ∧ (b = true ↔ t ∈ found) := by
  have hl := g.len
  have hlt : t.toNat < met.length := by omega
  refine ⟨met[t.toNat], List.getElem?_eq_getElem hlt, ?_⟩
  have q := g.mem t.toNat
  rw [List.getElem?_eq_getElem hlt] at q
  have e : ((t.toNat : Nat) : Int) = t := by omega
  rw [e] at q
  rw [← q]
  simp

theorem Good.visit {ls : List Int} {last : Int} {met : List Bool} {found : List Int} (g : Good ls last met found) {t : Int} (h0 : 0 ≤ t) (h1 : t ≤ last) (hm : met[t.toNat]? = some false) (hr : Reach ls last t) :
    Good ls last (met.set t.toNat true) (found ++ [t]) := by
  have hl := g.len
  refine ⟨g.l0, by simp [hl], fun s => ?_, fun s hs => ?_, fun s hs => ?_, List.mem_append_left _ g.zero, ?_⟩
  · have q := g.mem s
    rw [List.getElem?_set]
    by_cases c : t.toNat = s
    · rw [if_pos c, if_pos (by omega)]
      simp
      right; omega
    · rw [if_neg c, q]
      simp
      intro e; omega
  · rcases List.mem_append.mp hs with h | h
    · exact g.rng s h
    · simp at h; subst h; exact ⟨h0, h1⟩
  · rcases List.mem_append.mp hs with h | h
    · exact g.reach s h
    · simp at h; subst h; exact hr
  · rw [count_set_true hm, List.length_append, g.cnt]
    rfl

/-- all neighbours by the lengths of ms of the spot x are found -/
def Near (ms : List Int) (last : Int) (found : List Int) (x : Int) : Prop := ∀ l ∈ ms, ∀ y, (y = x + l ∨ y = x - l) → 0 ≤ y → y ≤ last → y ∈ found
/-- .. of the first n spots -/
def Closed (ls : List Int) (last : Int) (found : List Int) (n : Nat) : Prop := ∀ k x, k < n → found[k]? = some x → Near ls last found x

theorem Near.more {ms : List Int} {last : Int} {found : List Int} {x : Int} (h : Near ms last found x) (more : List Int) : Near ms last (found ++ more) x := fun l hl y e h0 h1 => List.mem_append_left _ (h l hl y e h0 h1)
theorem Closed.more {ls : List Int} {last : Int} {found : List Int} {n : Nat} (h : Closed ls last found n) (hn : n ≤ found.length) (more : List Int) : Closed ls last (found ++ more) n := fun k x hk e => by
  rw [List.getElem?_append_left (by omega)] at e
  exact (h k x hk e).more more
theorem Closed.zero {ls : List Int} {last : Int} {found : List Int} : Closed ls last found 0 := fun k x hk _ => absurd hk (by omega)
theorem Closed.succ {ls : List Int} {last : Int} {found : List Int} {n : Nat} {x : Int} (h : Closed ls last found n) (hx : found[n]? = some x) (hn : Near ls last found x) : Closed ls last found (n + 1) := fun k y hk e => by
  by_cases c : k = n
  · subst c
    rw [hx] at e
    cases e
    exact hn
  · exact h k y (by omega) e
theorem Near.nil {last : Int} {found : List Int} {x : Int} : Near [] last found x := fun l hl => by simp at hl
theorem Near.snoc {ms : List Int} {last : Int} {found : List Int} {x l : Int} (h : Near ms last found x) (hp : 0 ≤ x + l → x + l ≤ last → x + l ∈ found) (hm : 0 ≤ x - l → x - l ≤ last → x - l ∈ found) : Near (ms ++ [l]) last found x := fun m hm' y e h0 h1 => by
  rcases List.mem_append.mp hm' with q | q
  · exact h m q y e h0 h1
  · simp at q
    subst q
    rcases e with rfl | rfl
    · exact hp h0 h1
    · exact hm h0 h1

theorem Good.all {ls : List Int} {last : Int} {met : List Bool} {found : List Int} {n : Nat} (g : Good ls last met found) (c : Closed ls last found n) (hn : found.length ≤ n) {x : Int} (h : Reach ls last x) : x ∈ found := by
  induction h with
  | zero => exact g.zero
  | step _ hl e h0 h1 ih =>
    obtain ⟨k, hk⟩ := List.mem_iff_getElem?.mp ih
    have hlt : k < found.length := (List.getElem?_eq_some_iff.mp hk).1
    exact c k _ (by omega) hk _ hl _ e h0 h1
/-- at the end the mark of the last spot tells -/
theorem Good.end {ls : List Int} {last : Int} {met : List Bool} {found : List Int} {n : Nat} (g : Good ls last met found) (c : Closed ls last found n) (hn : found.length ≤ n) : ∃ b, met[last.toNat]? = some b ∧ (b = true ↔ Reach ls last last) := by
  obtain ⟨b, e, q⟩ := g.at g.l0 (Int.le_refl _)
  refine ⟨b, e, q.trans ⟨fun h => g.reach _ h, fun h => g.all c hn h⟩⟩
end M85

/-! Plain law: the multiples of the common divisor that are not reached. -/
namespace M85
open Classical
/-- the i-th multiple -/
def mul (ns : List Int) (i : Nat) : Int := (gcdL ns : Int) + (i : Int) * (gcdL ns : Int)
noncomputable def gap (ns : List Int) (i : Nat) : Bool := decide (¬ Reach ns (mul ns i) (mul ns i))
/-- the gaps among the first so many multiples -/
noncomputable def gapsTo (ns : List Int) (c : Nat) : List Int := ((List.range c).filter (gap ns)).map (mul ns)
noncomputable def gaps (ns : List Int) : List Int := gapsTo ns 121
theorem mul_dvd (ns : List Int) (i : Nat) : (gcdL ns : Int) ∣ mul ns i := ⟨1 + i, by unfold mul; rw [Int.mul_add, Int.mul_one, Int.mul_comm]⟩
theorem reach_mul {ns : List Int} {i : Nat} (hpos : ∀ l ∈ ns, 0 < l) (hp : ns.Pairwise fun a b => a + b ≤ mul ns i) : Reach ns (mul ns i) (mul ns i) := by
  have h0 : 0 ≤ mul ns i := by
    unfold mul
    have : 0 ≤ (i : Int) * (gcdL ns : Int) := Int.mul_nonneg (by omega) (by omega)
    omega
  exact (reach_iff h0 hpos hp).mpr (mul_dvd ns i)
theorem gapsTo_succ (ns : List Int) (c : Nat) : gapsTo ns (c + 1) = gapsTo ns c ++ if Reach ns (mul ns c) (mul ns c) then [] else [mul ns c] := by
  unfold gapsTo
  rw [List.range_succ, List.filter_append, List.map_append]
  congr 1
  by_cases h : Reach ns (mul ns c) (mul ns c)
  · rw [if_pos h]
    simp [gap, h]
  · rw [if_neg h]
    simp [gap, h]
theorem gapsTo_more {ns : List Int} {c : Nat} : ∀ {d : Nat}, c ≤ d → (∀ i, c ≤ i → Reach ns (mul ns i) (mul ns i)) → gapsTo ns d = gapsTo ns c
  | 0, h, _ => by rw [Nat.le_zero.mp h]
  | d + 1, h, r => by
    rcases Nat.lt_or_ge d c with q | q
    · rw [show d + 1 = c by omega]
    · rw [gapsTo_succ, if_pos (r d q), List.append_nil]
      exact gapsTo_more q r
theorem gaps_of {ns : List Int} {c : Nat} (h : c ≤ 121) (r : ∀ i, c ≤ i → Reach ns (mul ns i) (mul ns i)) : gapsTo ns c = gaps ns := (gapsTo_more h r).symm
theorem gaps_mem {ns : List Int} {x : Int} (h : x ∈ gaps ns) : ∃ i, x = mul ns i ∧ ¬ Reach ns (mul ns i) (mul ns i) := by
  obtain ⟨i, hi, rfl⟩ := List.mem_map.mp h
  exact ⟨i, rfl, by simpa [gap] using (List.mem_filter.mp hi).2⟩
theorem dvd_fold {d : Nat} : ∀ (ls : List Int) (g : Nat), d ∣ g → (∀ l ∈ ls, (d : Int) ∣ l) → d ∣ ls.foldl (fun g l => Nat.gcd l.natAbs g) g
  | [], _, h, _ => h
  | l :: ls, g, h, k => dvd_fold ls _ (Nat.dvd_gcd (Int.ofNat_dvd_left.mp (k l (List.mem_cons_self ..))) h) fun z m => k z (List.mem_cons_of_mem _ m)
theorem gcdL_same {ns ms : List Int} (h : ∀ x, x ∈ ns ↔ x ∈ ms) : gcdL ns = gcdL ms :=
  Nat.dvd_antisymm (dvd_fold ms 0 (Nat.dvd_zero _) fun l m => gcdL_dvd ((h l).mpr m)) (dvd_fold ns 0 (Nat.dvd_zero _) fun l m => gcdL_dvd ((h l).mp m))
theorem gaps_same {ns ms : List Int} (h : ∀ x, x ∈ ns ↔ x ∈ ms) : gaps ns = gaps ms := by
  have e1 : mul ns = mul ms := by
    funext i
    unfold mul
    rw [gcdL_same h]
  have e2 : gap ns = gap ms := by
    funext i
    unfold gap
    rw [e1]
    have : Reach ns (mul ms i) (mul ms i) ↔ Reach ms (mul ms i) (mul ms i) := ⟨fun r => r.mono fun x m => (h x).mp m, fun r => r.mono fun x m => (h x).mpr m⟩
    simp [this]
  unfold gaps gapsTo
  rw [e1, e2]
end M85

/-! Plain law: spots of a word, joined by watches that occur. -/
namespace Mw
open PySem PySem.Spec PyProof.Rows L2
/-- led on from x -/
inductive Star (R : Nat → Nat → Prop) (x : Nat) : Nat → Prop where
  | refl : Star R x x
  | step {y z : Nat} (h : Star R x y) (r : R y z) : Star R x z
theorem Star.one {R : Nat → Nat → Prop} {x y : Nat} (r : R x y) : Star R x y := .step .refl r
theorem Star.trans {R : Nat → Nat → Prop} {x y z : Nat} (a : Star R x y) (b : Star R y z) : Star R x z := by
  induction b with
  | refl => exact a
  | step _ r ih => exact .step ih r
theorem Star.symm {R : Nat → Nat → Prop} (s : ∀ x y, R x y → R y x) {x y : Nat} (a : Star R x y) : Star R y x := by
  induction a with
  | refl => exact .refl
  | step _ r ih => exact (Star.one (s _ _ r)).trans ih
theorem Star.mono {R S : Nat → Nat → Prop} (s : ∀ x y, R x y → S x y) {x y : Nat} (a : Star R x y) : Star S x y := by
  induction a with
  | refl => exact .refl
  | step _ r ih => exact .step ih (s _ _ r)
theorem Star.iff {R S : Nat → Nat → Prop} (s : ∀ x y, R x y ↔ S x y) {x y : Nat} : Star R x y ↔ Star S x y := ⟨Star.mono fun x y => (s x y).mp, Star.mono fun x y => (s x y).mpr⟩
/-- W occurs in z from s -/
def Occ (W z : Str) (s : Nat) : Prop := s + W.length ≤ z.length ∧ cutS z (some (s : Int)) (some ((s : Int) + (W.length : Int))) = W
/-- two spots joined by W, W from a spot below m -/
def EdgeB (W z : Str) (m : Nat) (i j : Nat) : Prop := (i < m ∧ Occ W z i ∧ j = i + W.length) ∨ (j < m ∧ Occ W z j ∧ i = j + W.length)
def Edge (W z : Str) (i j : Nat) : Prop := (Occ W z i ∧ j = i + W.length) ∨ (Occ W z j ∧ i = j + W.length)
def Adj (ws : List Str) (z : Str) (i j : Nat) : Prop := ∃ W ∈ ws, Edge W z i j
def AdjB (ws : List Str) (W z : Str) (m : Nat) (i j : Nat) : Prop := Adj ws z i j ∨ EdgeB W z m i j
/-- the watches tell the word -/
def Told (ws : List Str) (z : Str) : Prop := Star (Adj ws z) 0 z.length
theorem Edge.symm {W z : Str} {i j : Nat} (h : Edge W z i j) : Edge W z j i := h.elim .inr .inl
theorem Adj.symm {ws : List Str} {z : Str} (i j : Nat) (h : Adj ws z i j) : Adj ws z j i := let ⟨W, m, e⟩ := h; ⟨W, m, e.symm⟩
theorem EdgeB.symm {W z : Str} {m i j : Nat} (h : EdgeB W z m i j) : EdgeB W z m j i := h.elim .inr .inl
theorem AdjB.symm {ws : List Str} {W z : Str} {m : Nat} (i j : Nat) (h : AdjB ws W z m i j) : AdjB ws W z m j i := h.elim (fun h => .inl (Adj.symm _ _ h)) fun h => .inr h.symm
theorem Adj.le {ws : List Str} {z : Str} {i j : Nat} (h : Adj ws z i j) : i ≤ z.length ∧ j ≤ z.length := by
  obtain ⟨W, _, ⟨o, e⟩ | ⟨o, e⟩⟩ := h <;> have := o.1 <;> omega
theorem adj_nil {z : Str} {i j : Nat} : ¬ Adj [] z i j := fun ⟨_, h, _⟩ => by simp at h
theorem adjB_zero {ws : List Str} {W z : Str} {i j : Nat} : AdjB ws W z 0 i j ↔ Adj ws z i j := ⟨fun h => h.elim id fun h => by rcases h with ⟨h, _⟩ | ⟨h, _⟩ <;> omega, .inl⟩
theorem adjB_all {ws : List Str} {W z : Str} {i j : Nat} {n : Nat} (hn : (n : Int) = ((z.length : Int) - (W.length : Int) + 1).toNat) : AdjB ws W z n i j ↔ Adj (ws ++ [W]) z i j := by
  constructor
  · rintro (⟨V, h, e⟩ | ⟨_, o, e⟩ | ⟨_, o, e⟩)
    · exact ⟨V, List.mem_append.mpr (.inl h), e⟩
    · exact ⟨W, List.mem_append.mpr (.inr (by simp)), .inl ⟨o, e⟩⟩
    · exact ⟨W, List.mem_append.mpr (.inr (by simp)), .inr ⟨o, e⟩⟩
  · rintro ⟨V, h, e⟩
    rcases List.mem_append.mp h with h | h
    · exact .inl ⟨V, h, e⟩
    · simp at h
      subst h
      rcases e with ⟨o, e⟩ | ⟨o, e⟩
      · exact .inr (.inl ⟨by have := o.1; omega, o, e⟩)
      · exact .inr (.inr ⟨by have := o.1; omega, o, e⟩)
theorem adjB_no {ws : List Str} {W z : Str} {m : Nat} {i j : Nat} (h : ¬ Occ W z m) : AdjB ws W z (m + 1) i j ↔ AdjB ws W z m i j := by
  unfold AdjB EdgeB
  constructor
  · rintro (a | ⟨l, o, e⟩ | ⟨l, o, e⟩)
    · exact .inl a
    · rcases Nat.lt_succ_iff_lt_or_eq.mp l with l | l
      · exact .inr (.inl ⟨l, o, e⟩)
      · exact absurd (l ▸ o) h
    · rcases Nat.lt_succ_iff_lt_or_eq.mp l with l | l
      · exact .inr (.inr ⟨l, o, e⟩)
      · exact absurd (l ▸ o) h
  · rintro (a | ⟨l, o, e⟩ | ⟨l, o, e⟩)
    · exact .inl a
    · exact .inr (.inl ⟨by omega, o, e⟩)
    · exact .inr (.inr ⟨by omega, o, e⟩)
theorem adjB_yes {ws : List Str} {W z : Str} {m : Nat} {i j : Nat} (h : Occ W z m) : AdjB ws W z (m + 1) i j ↔ AdjB ws W z m i j ∨ (i = m ∧ j = m + W.length) ∨ (j = m ∧ i = m + W.length) := by
  unfold AdjB EdgeB
  constructor
  · rintro (a | ⟨l, o, e⟩ | ⟨l, o, e⟩)
    · exact .inl (.inl a)
    · rcases Nat.lt_succ_iff_lt_or_eq.mp l with l | l
      · exact .inl (.inr (.inl ⟨l, o, e⟩))
      · exact .inr (.inl ⟨l, by omega⟩)
    · rcases Nat.lt_succ_iff_lt_or_eq.mp l with l | l
      · exact .inl (.inr (.inr ⟨l, o, e⟩))
      · exact .inr (.inr ⟨l, by omega⟩)
  · rintro ((a | ⟨l, o, e⟩ | ⟨l, o, e⟩) | ⟨l, e⟩ | ⟨l, e⟩)
    · exact .inl a
    · exact .inr (.inl ⟨by omega, o, e⟩)
    · exact .inr (.inr ⟨by omega, o, e⟩)
    · subst l; exact .inr (.inl ⟨by omega, h, e⟩)
    · subst l; exact .inr (.inr ⟨by omega, h, e⟩)
/-! ### no two alike among few -/
theorem nodup_le {α : Type} [DecidableEq α] : ∀ (l m : List α), l.Nodup → (∀ x ∈ l, x ∈ m) → l.length ≤ m.length
  | [], _, _, _ => Nat.zero_le _
  | a :: t, m, nd, h => by
    have ⟨h1, h2⟩ := List.nodup_cons.mp nd
    have ha := h a List.mem_cons_self
    have := nodup_le t (m.erase a) h2 fun x hx => (List.mem_erase_of_ne fun e : x = a => h1 (by rw [← e]; exact hx)).mpr (h x (List.mem_cons_of_mem _ hx))
    rw [List.length_erase_of_mem ha] at this
    have := List.length_pos_of_mem ha
    rw [List.length_cons]
    omega
theorem nodup_range {l : List Int} {n : Nat} (nd : l.Nodup) (h : ∀ x ∈ l, 0 ≤ x ∧ x ≤ n) : l.length ≤ n + 1 := by
  have := nodup_le l ((List.range (n + 1)).map fun i : Nat => (i : Int)) nd fun x hx => by
    have := h x hx
    exact List.mem_map.mpr ⟨x.toNat, List.mem_range.mpr (by omega), by omega⟩
  rw [List.length_map, List.length_range] at this
  exact this
/-! ### marks -/
/-- alike marks are led to one another, and the other way round -/
def Lab (R : Nat → Nat → Prop) (n : Nat) (ms : List Int) : Prop := ms.length = n + 1 ∧ ∀ i j (x y : Int), ms[i]? = some x → ms[j]? = some y → (x = y ↔ Star R i j)
theorem Lab.start {n : Nat} {R : Nat → Nat → Prop} (hR : ∀ i j, ¬ R i j) : Lab R n ((List.range (n + 1)).map fun i : Nat => (i : Int)) := by
  refine ⟨by simp, fun i j x y hx hy => ?_⟩
  have e1 : x = i := by
    rw [List.getElem?_map] at hx
    cases q : (List.range (n + 1))[i]? with
    | none => rw [q] at hx; cases hx
    | some k =>
      rw [q] at hx
      have : i = k := by
        have := List.getElem?_eq_some_iff.mp q
        obtain ⟨h, e⟩ := this
        simpa using e
      subst this
      exact (Option.some.inj hx).symm
  have e2 : y = j := by
    rw [List.getElem?_map] at hy
    cases q : (List.range (n + 1))[j]? with
    | none => rw [q] at hy; cases hy
    | some k =>
      rw [q] at hy
      have : j = k := by
        have := List.getElem?_eq_some_iff.mp q
        obtain ⟨h, e⟩ := this
        simpa using e
      subst this
      exact (Option.some.inj hy).symm
  subst e1 e2
  constructor
  · intro h
    have : i = j := by omega
    exact this ▸ .refl
  · intro h
    cases h with
    | refl => rfl
    | step _ r => exact absurd r (hR _ _)
theorem Lab.iff {R S : Nat → Nat → Prop} {n : Nat} {ms : List Int} (h : Lab R n ms) (s : ∀ x y, R x y ↔ S x y) : Lab S n ms := ⟨h.1, fun i j x y hx hy => (h.2 i j x y hx hy).trans (Star.iff s)⟩
/-- one more pair: alike already -/
theorem Lab.same {R S : Nat → Nat → Prop} {n : Nat} {ms : List Int} (h : Lab R n ms) {a b : Nat} {x : Int} (ha : ms[a]? = some x) (hb : ms[b]? = some x) (sy : ∀ x y, R x y → R y x) (s : ∀ i j, S i j ↔ R i j ∨ (i = a ∧ j = b) ∨ (j = a ∧ i = b)) : Lab S n ms := by
  refine ⟨h.1, fun i j u v hu hv => (h.2 i j u v hu hv).trans ⟨Star.mono fun i j r => (s i j).mpr (.inl r), fun q => ?_⟩⟩
  have ab : Star R a b := (h.2 a b x x ha hb).mp rfl
  clear hv
  induction q with
  | refl => exact .refl
  | step _ r ih =>
    rcases (s _ _).mp r with r | ⟨rfl, rfl⟩ | ⟨rfl, rfl⟩
    · exact .step ih r
    · exact ih.trans ab
    · exact ih.trans (ab.symm sy)
/-- .. not alike: the one mark gives way to the other -/
theorem Lab.join {R S : Nat → Nat → Prop} {n : Nat} {ms : List Int} (h : Lab R n ms) {a b : Nat} {x y : Int} (ha : ms[a]? = some x) (hb : ms[b]? = some y) (hR : ∀ i j, R i j → i ≤ n ∧ j ≤ n) (sy : ∀ x y, R x y → R y x) (s : ∀ i j, S i j ↔ R i j ∨ (i = a ∧ j = b) ∨ (j = a ∧ i = b)) :
    Lab S n (ms.map fun m => if m = y then x else m) := by
  refine ⟨by rw [List.length_map]; exact h.1, fun i j u v hu hv => ?_⟩
  have get : ∀ {i : Nat} {u : Int}, (ms.map fun m => if m = y then x else m)[i]? = some u → ∃ u0, ms[i]? = some u0 ∧ u = if u0 = y then x else u0 := fun {i u} hu => by
    rw [List.getElem?_map] at hu
    cases q : ms[i]? with
    | none => rw [q] at hu; cases hu
    | some k => rw [q] at hu; exact ⟨k, rfl, (Option.some.inj hu).symm⟩
  obtain ⟨u0, hu0, eu⟩ := get hu
  obtain ⟨v0, hv0, ev⟩ := get hv
  have up : ∀ {i j : Nat}, Star R i j → Star S i j := fun q => q.mono fun i j r => (s i j).mpr (.inl r)
  have ab : Star S a b := .one ((s a b).mpr (.inr (.inl ⟨rfl, rfl⟩)))
  have ba : Star S b a := .one ((s b a).mpr (.inr (.inr ⟨rfl, rfl⟩)))
  constructor
  · intro e
    by_cases c1 : u0 = y
    · have ib : Star S i b := up ((h.2 i b u0 y hu0 hb).mp c1)
      by_cases c2 : v0 = y
      · exact up ((h.2 i j u0 v0 hu0 hv0).mp (c1.trans c2.symm))
      · rw [if_pos c1] at eu
        rw [if_neg c2] at ev
        have aj : Star S a j := up ((h.2 a j x v0 ha hv0).mp (by omega))
        exact (ib.trans ba).trans aj
    · rw [if_neg c1] at eu
      by_cases c2 : v0 = y
      · rw [if_pos c2] at ev
        have bj : Star S b j := up ((h.2 b j y v0 hb hv0).mp c2.symm)
        have ia : Star S i a := up ((h.2 i a u0 x hu0 ha).mp (by omega))
        exact (ia.trans ab).trans bj
      · rw [if_neg c2] at ev
        exact up ((h.2 i j u0 v0 hu0 hv0).mp (by omega))
  · intro q
    have la : a ≤ n := by have := (List.getElem?_eq_some_iff.mp ha).1; have := h.1; omega
    have lb : b ≤ n := by have := (List.getElem?_eq_some_iff.mp hb).1; have := h.1; omega
    -- every spot on the way has its mark
    have key : ∀ {k : Nat}, Star S i k → ∀ w0 : Int, ms[k]? = some w0 → (if u0 = y then x else u0) = if w0 = y then x else w0 := by
      intro k q
      induction q with
      | refl =>
        intro w0 hw
        rw [hu0] at hw
        cases hw
        rfl
      | @step k l _ r ih =>
        intro w0 hw
        have inR : ∀ m : Nat, m ≤ n → ∃ m0, ms[m]? = some m0 := fun m hm => ⟨_, List.getElem?_eq_getElem (by have := h.1; omega)⟩
        rcases (s _ _).mp r with r | ⟨rfl, rfl⟩ | ⟨rfl, rfl⟩
        · obtain ⟨k0, hk⟩ := inR k (hR _ _ r).1
          rw [ih k0 hk, (h.2 k l k0 w0 hk hw).mpr (.one r)]
        · rw [ih x ha]
          rw [hb] at hw
          cases hw
          rw [if_pos rfl]
          split <;> rfl
        · rw [ih y hb]
          rw [ha] at hw
          cases hw
          rw [if_pos rfl]
          split <;> rfl
    rw [eu, ev]
    exact key q v0 hv0
end Mw

/-! Plain law: distances, the least of the shortest ways. -/
namespace Mz
open PySem PySem.Spec PyProof.Rows L2
/-- k steps from x to y -/
def Steps (A : Nat → Nat → Prop) : Nat → Nat → Nat → Prop
  | 0, x, y => x = y
  | k + 1, x, z => ∃ y, Steps A k x y ∧ A y z
/-- k steps and no fewer -/
def Dist (A : Nat → Nat → Prop) (x y k : Nat) : Prop := Steps A k x y ∧ ∀ j, j < k → ¬ Steps A j x y
variable {A : Nat → Nat → Prop}
theorem Steps.trans : ∀ {k j x y z : Nat}, Steps A j x y → Steps A k y z → Steps A (j + k) x z
  | 0, j, x, y, z, a, b => by cases b; exact a
  | k + 1, j, x, y, z, a, ⟨u, b, r⟩ => ⟨u, Steps.trans a b, r⟩
theorem Steps.one {x y : Nat} (r : A x y) : Steps A 1 x y := ⟨x, rfl, r⟩
theorem Steps.cons {k x y z : Nat} (r : A x y) (b : Steps A k y z) : Steps A (k + 1) x z := by
  have := Steps.trans (Steps.one r) b
  rwa [Nat.add_comm] at this
theorem Steps.uncons : ∀ {k x z : Nat}, Steps A (k + 1) x z → ∃ y, A x y ∧ Steps A k y z
  | 0, x, z, ⟨y, e, r⟩ => by cases e; exact ⟨z, r, rfl⟩
  | k + 1, x, z, ⟨y, s, r⟩ => let ⟨u, a, b⟩ := Steps.uncons s; ⟨u, a, y, b, r⟩
theorem Steps.symm (sy : ∀ x y, A x y → A y x) : ∀ {k x y : Nat}, Steps A k x y → Steps A k y x
  | 0, _, _, e => Eq.symm e
  | k + 1, x, z, ⟨y, s, r⟩ => Steps.cons (sy _ _ r) (Steps.symm sy s)
theorem Dist.inj {x y k j : Nat} (a : Dist A x y k) (b : Dist A x y j) : k = j := by
  rcases Nat.lt_trichotomy k j with h | h | h
  · exact absurd a.1 (b.2 k h)
  · exact h
  · exact absurd b.1 (a.2 j h)
theorem Steps.dist {x y : Nat} : ∀ {k : Nat}, Steps A k x y → ∃ d, d ≤ k ∧ Dist A x y d := by
  intro k
  induction k using Nat.strongRecOn with
  | _ k ih =>
    intro h
    by_cases c : ∃ j, j < k ∧ Steps A j x y
    · obtain ⟨j, hj, s⟩ := c
      obtain ⟨d, h1, h2⟩ := ih j hj s
      exact ⟨d, by omega, h2⟩
    · exact ⟨k, Nat.le_refl _, h, fun j hj s => c ⟨j, hj, s⟩⟩
theorem Dist.symm (sy : ∀ x y, A x y → A y x) {x y k : Nat} (h : Dist A x y k) : Dist A y x k := ⟨h.1.symm sy, fun j hj s => h.2 j hj (s.symm sy)⟩
theorem Dist.zero {x : Nat} : Dist A x x 0 := ⟨rfl, fun j h => by omega⟩
theorem Dist.zero_iff {x y : Nat} : Dist A x y 0 ↔ x = y := ⟨fun h => h.1, fun h => h ▸ Dist.zero⟩
/-- one step on from a spot k away, not nearer: k + 1 away -/
theorem Dist.next {x y z k : Nat} (h : Dist A x y k) (r : A y z) (no : ∀ j, j ≤ k → ¬ Dist A x z j) : Dist A x z (k + 1) :=
  ⟨⟨y, h.1, r⟩, fun j hj s => let ⟨d, h1, h2⟩ := s.dist; no d (by omega) h2⟩
/-- the spot ahead on a shortest way -/
theorem Dist.pred {x z k : Nat} (h : Dist A x z (k + 1)) : ∃ y, Dist A x y k ∧ A y z := by
  obtain ⟨y, s, r⟩ := h.1
  exact ⟨y, ⟨s, fun j hj s' => h.2 (j + 1) (by omega) ⟨y, s', r⟩⟩, r⟩
theorem Dist.all {x : Nat} : ∀ {k z : Nat}, Dist A x z k → ∀ j, j ≤ k → ∃ y, Dist A x y j
  | 0, z, h, j, hj => ⟨z, by rw [show j = 0 by omega]; exact h⟩
  | k + 1, z, h, j, hj => by
    by_cases c : j = k + 1
    · exact ⟨z, by rw [c]; exact h⟩
    · obtain ⟨y, hy, _⟩ := h.pred
      exact hy.all j (by omega)
theorem Steps.le {n : Nat} (hA : ∀ i j, A i j → j ≤ n) : ∀ {k x y : Nat}, x ≤ n → Steps A k x y → y ≤ n
  | 0, _, _, h, e => by cases e; exact h
  | _ + 1, _, _, _, ⟨_, _, r⟩ => hA _ _ r
/-- a shortest way within the spots 0 .. n has at most n steps -/
theorem Dist.le {n x z k : Nat} (hA : ∀ i j, A i j → j ≤ n) (hx : x ≤ n) (h : Dist A x z k) : k ≤ n := by
  have ex : ∀ m, m ≤ k + 1 → ∃ l : List Int, l.length = m ∧ l.Nodup ∧ ∀ v ∈ l, 0 ≤ v ∧ v ≤ n ∧ ∃ j, j < m ∧ Dist A x v.toNat j := by
    intro m
    induction m with
    | zero => exact fun _ => ⟨[], rfl, .nil, fun v h => by simp at h⟩
    | succ m ih =>
      intro hm
      obtain ⟨l, h1, h2, h3⟩ := ih (by omega)
      obtain ⟨y, hy⟩ := h.all m (by omega)
      have yl : y ≤ n := Steps.le hA hx hy.1
      refine ⟨(y : Int) :: l, by rw [List.length_cons, h1], List.nodup_cons.mpr ⟨fun q => ?_, h2⟩, fun v hv => ?_⟩
      · obtain ⟨_, _, j, hj, d⟩ := h3 _ q
        have := d.inj hy
        omega
      · rcases List.mem_cons.mp hv with rfl | hv
        · exact ⟨by omega, by omega, m, by omega, hy⟩
        · obtain ⟨a, b, j, hj, d⟩ := h3 v hv
          exact ⟨a, b, j, by omega, d⟩
  obtain ⟨l, h1, h2, h3⟩ := ex (k + 1) (Nat.le_refl _)
  have := Mw.nodup_range h2 fun v hv => ⟨(h3 v hv).1, (h3 v hv).2.1⟩
  omega
theorem star_steps {x y : Nat} : Mw.Star A x y ↔ ∃ k, Steps A k x y := by
  constructor
  · intro h
    induction h with
    | refl => exact ⟨0, rfl⟩
    | step _ r ih => let ⟨k, s⟩ := ih; exact ⟨k + 1, _, s, r⟩
  · rintro ⟨k, s⟩
    induction k generalizing y with
    | zero => cases s; exact .refl
    | succ k ih => let ⟨u, s, r⟩ := s; exact .step (ih s) r
theorem star_dist {x y : Nat} : Mw.Star A x y ↔ ∃ k, Dist A x y k := star_steps.trans ⟨fun ⟨_, s⟩ => let ⟨d, _, h⟩ := s.dist; ⟨d, h⟩, fun ⟨k, h⟩ => ⟨k, h.1⟩⟩
/-- the least of the shortest ways from x to n, step by step -/
inductive Gr (A : Nat → Nat → Prop) (n : Nat) : Nat → List Nat → Prop where
  | stop : Gr A n n [n]
  | step {x w d : Nat} {P : List Nat} (hx : Dist A x n (d + 1)) (r : A x w) (hw : Dist A w n d) (least : ∀ v, A x v → Dist A v n d → w ≤ v) (h : Gr A n w P) : Gr A n x (x :: P)
theorem Gr.inj {n : Nat} : ∀ {P P' : List Nat} {x : Nat}, Gr A n x P → Gr A n x P' → P = P' := by
  intro P P' x a
  induction a generalizing P' with
  | stop =>
    intro b
    cases b with
    | stop => rfl
    | step hx _ _ _ _ => have := hx.inj Dist.zero; omega
  | @step x w d P hx r hw least h ih =>
    intro b
    cases b with
    | stop => have := hx.inj Dist.zero; omega
    | @step _ w' d' P' hx' r' hw' least' h' =>
      have e : d = d' := by have := hx.inj hx'; omega
      subst e
      have : w = w' := by
        have := least w' r' hw'
        have := least' w r hw
        omega
      subst this
      rw [ih h']
/-- a least one is there -/
theorem least_of {P : Nat → Prop} {m : Nat} (h : P m) : ∃ w, P w ∧ ∀ v, P v → w ≤ v := by
  induction m using Nat.strongRecOn with
  | _ m ih =>
    by_cases c : ∃ v, v < m ∧ P v
    · obtain ⟨v, l, p⟩ := c
      exact ih v l p
    · exact ⟨m, h, fun v p => by
        rcases Nat.lt_or_ge v m with l | l
        · exact absurd ⟨v, l, p⟩ c
        · exact l⟩
/-! ### the order of ways -/
/-- not after, as tuples of one length are ordered -/
def lle : List Nat → List Nat → Prop
  | [], _ => True
  | _ :: _, [] => False
  | a :: p, b :: q => a < b ∨ (a = b ∧ lle p q)
theorem lle.refl : ∀ p, lle p p
  | [] => trivial
  | a :: p => .inr ⟨rfl, lle.refl p⟩
theorem lle.trans : ∀ {p q r}, lle p q → lle q r → lle p r
  | [], _, _, _, _ => trivial
  | _ :: _, [], _, h, _ => h.elim
  | _ :: _, _ :: _, [], _, h => h.elim
  | a :: p, b :: q, c :: r, h, k => by
    rcases h with h | ⟨rfl, h⟩
    · rcases k with k | ⟨rfl, k⟩
      · exact .inl (by omega)
      · exact .inl h
    · rcases k with k | ⟨rfl, k⟩
      · exact .inl k
      · exact .inr ⟨rfl, lle.trans h k⟩
theorem lle.total : ∀ p q, lle p q ∨ lle q p
  | [], _ => .inl trivial
  | _ :: _, [] => .inr trivial
  | a :: p, b :: q => by
    rcases Nat.lt_trichotomy a b with h | h | h
    · exact .inl (.inl h)
    · rcases lle.total p q with k | k
      · exact .inl (.inr ⟨h, k⟩)
      · exact .inr (.inr ⟨h.symm, k⟩)
    · exact .inr (.inl h)
theorem lle.anti : ∀ {p q}, lle p q → lle q p → p = q
  | [], [], _, _ => rfl
  | [], _ :: _, _, h => h.elim
  | _ :: _, [], h, _ => h.elim
  | a :: p, b :: q, h, k => by
    rcases h with h | ⟨rfl, h⟩
    · rcases k with k | ⟨k, _⟩ <;> omega
    · rcases k with k | ⟨_, k⟩
      · omega
      · rw [lle.anti h k]
theorem lle.snoc {v : Nat} : ∀ {p q : List Nat}, p.length = q.length → lle p q → lle (p ++ [v]) (q ++ [v])
  | [], [], _, _ => .inr ⟨rfl, trivial⟩
  | [], _ :: _, h, _ => by simp at h
  | _ :: _, [], h, _ => by simp at h
  | a :: p, b :: q, h, k => k.elim .inl fun ⟨e, k⟩ => .inr ⟨e, lle.snoc (by simpa using h) k⟩
theorem lle.unpre {q r : List Nat} : ∀ {p : List Nat}, lle (p ++ q) (p ++ r) → lle q r
  | [], h => h
  | a :: p, h => h.elim (fun h => by omega) fun ⟨_, h⟩ => lle.unpre (p := p) h
/-- a way from x to y -/
inductive Way (A : Nat → Nat → Prop) : Nat → Nat → List Nat → Prop where
  | one (x : Nat) : Way A x x [x]
  | cons {x w y : Nat} {P : List Nat} (r : A x w) (h : Way A w y P) : Way A x y (x :: P)
theorem Way.head {x y : Nat} {P : List Nat} (h : Way A x y P) : ∃ t, P = x :: t := by cases h <;> exact ⟨_, rfl⟩
theorem Way.snoc {x y z : Nat} {P : List Nat} (h : Way A x y P) (r : A y z) : Way A x z (P ++ [z]) := by
  induction h with
  | one x => exact .cons r (.one z)
  | cons r' _ ih => exact .cons r' (ih r)
theorem Way.unsnoc {x z : Nat} {P : List Nat} (h : Way A x z P) : P = [x] ∧ x = z ∨ ∃ y P', P = P' ++ [z] ∧ Way A x y P' ∧ A y z := by
  induction h with
  | one x => exact .inl ⟨rfl, rfl⟩
  | @cons x w z P r h ih =>
    rcases ih with ⟨rfl, rfl⟩ | ⟨y, P', rfl, h', r'⟩
    · exact .inr ⟨x, [x], rfl, .one x, r⟩
    · exact .inr ⟨y, x :: P', rfl, .cons r h', r'⟩
theorem Way.steps {x y : Nat} {P : List Nat} (h : Way A x y P) : ∃ k, P.length = k + 1 ∧ Steps A k x y := by
  induction h with
  | one x => exact ⟨0, rfl, rfl⟩
  | cons r _ ih => obtain ⟨k, e, s⟩ := ih; exact ⟨k + 1, by rw [List.length_cons, e], Steps.cons r s⟩
theorem Steps.way : ∀ {k x y : Nat}, Steps A k x y → ∃ P, Way A x y P ∧ P.length = k + 1
  | 0, x, y, e => by cases e; exact ⟨[x], .one x, rfl⟩
  | k + 1, x, z, ⟨y, s, r⟩ => let ⟨P, w, l⟩ := Steps.way s; ⟨P ++ [z], w.snoc r, by rw [List.length_append, l]; rfl⟩
/-- the least of the shortest ways -/
structure Best (A : Nat → Nat → Prop) (x y d : Nat) (P : List Nat) : Prop where
  way : Way A x y P
  ln : P.length = d + 1
  least : ∀ P', Way A x y P' → P'.length = d + 1 → lle P P'
theorem Best.tail {n x w d : Nat} {P : List Nat} (h : Best A x n (d + 1) (x :: P)) (r : A x w) (hw : Way A w n P) : Best A w n d P :=
  ⟨hw, by simpa using h.ln, fun P' h1 h2 => (h.least (x :: P') (.cons r h1) (by rw [List.length_cons, h2])).elim (fun q => by omega) fun q => q.2⟩
/-- .. is found step by step -/
theorem Best.gr {n : Nat} : ∀ {P : List Nat} {x d : Nat}, Dist A x n d → Best A x n d P → Gr A n x P
  | [], x, d, _, h => by have := h.ln; simp at this
  | [a], x, d, hd, h => by
    have l := h.ln
    have hw := h.way
    cases hw with
    | one => exact .stop
    | cons _ q => cases q
  | a :: b :: P, x, d, hd, h => by
    have l := h.ln
    have hw := h.way
    cases hw with
    | @cons _ w _ _ r q =>
      obtain ⟨t, e⟩ := q.head
      cases e
      obtain ⟨k, e1, s⟩ := q.steps
      cases d with
      | zero => simp at l
      | succ d =>
        have ek : k = d := by
          simp only [List.length_cons] at l e1
          omega
        subst ek
        have dw : Dist A b n k := ⟨s, fun j hj s' => hd.2 (j + 1) (by omega) (Steps.cons r s')⟩
        refine .step hd r dw (fun v rv dv => ?_) (Best.gr dw (h.tail r q))
        obtain ⟨P', w', l'⟩ := dv.1.way
        obtain ⟨t', e'⟩ := w'.head
        subst e'
        rcases h.least (a :: v :: t') (.cons rv w') (by rw [List.length_cons, l']) with z | ⟨_, z⟩
        · omega
        · rcases z with z | ⟨z, _⟩ <;> omega
/-- one step on: the least over the spots ahead -/
theorem Best.next {x z d : Nat} {P : List Nat} {y : Nat} (hP : Best A x y d P) (r : A y z)
    (least : ∀ y' P', Best A x y' d P' → A y' z → lle (P ++ [z]) (P' ++ [z])) (ex : ∀ y', Steps A d x y' → A y' z → ∃ P', Best A x y' d P') : Best A x z (d + 1) (P ++ [z]) := by
  refine ⟨hP.way.snoc r, by rw [List.length_append, hP.ln]; rfl, fun P' h1 h2 => ?_⟩
  rcases h1.unsnoc with ⟨rfl, rfl⟩ | ⟨y', Q, rfl, hq, r'⟩
  · simp at h2
  · obtain ⟨k, e, s⟩ := hq.steps
    rw [List.length_append, e] at h2
    have ek : k = d := by simp at h2; omega
    subst ek
    obtain ⟨P2, b2⟩ := ex y' s r'
    exact (least y' P2 b2 r').trans (lle.snoc (by rw [b2.ln, e]) (b2.least Q hq e))
end Mz

/-! Plain law: the classes of spots that lead to one another. -/
namespace Mc
open PySem PySem.Spec PyProof.Rows L2
open Classical
variable {A : Nat → Nat → Prop}
/-- ascending lists with the same members are the same -/
theorem lt_ext {α : Type} {R : α → α → Prop} (irr : ∀ x, ¬ R x x) (tr : ∀ x y z, R x y → R y z → R x z) : ∀ {l m : List α}, l.Pairwise R → m.Pairwise R → (∀ x, x ∈ l ↔ x ∈ m) → l = m
  | [], [], _, _, _ => rfl
  | [], y :: m, _, _, h => absurd ((h y).mpr (List.mem_cons_self ..)) (by simp)
  | x :: l, [], _, _, h => absurd ((h x).mp (List.mem_cons_self ..)) (by simp)
  | x :: l, y :: m, hl, hm, h => by
    obtain ⟨hx, hl2⟩ := List.pairwise_cons.mp hl
    obtain ⟨hy, hm2⟩ := List.pairwise_cons.mp hm
    have e : x = y := by
      rcases List.mem_cons.mp ((h x).mp (List.mem_cons_self ..)) with e | q
      · exact e
      · rcases List.mem_cons.mp ((h y).mpr (List.mem_cons_self ..)) with e | q2
        · exact e.symm
        · exact absurd (tr _ _ _ (hx y q2) (hy x q)) (irr x)
    subst e
    refine congrArg (x :: ·) (lt_ext irr tr hl2 hm2 fun z => ?_)
    constructor
    · intro q
      rcases List.mem_cons.mp ((h z).mp (List.mem_cons_of_mem _ q)) with e | r
      · rw [e] at q
        exact absurd (hx _ q) (irr _)
      · exact r
    · intro q
      rcases List.mem_cons.mp ((h z).mpr (List.mem_cons_of_mem _ q)) with e | r
      · rw [e] at q
        exact absurd (hy _ q) (irr _)
      · exact r
theorem int_ext {l m : List Int} (hl : l.Pairwise (· < ·)) (hm : m.Pairwise (· < ·)) (h : ∀ x, x ∈ l ↔ x ∈ m) : l = m := lt_ext (R := fun a b : Int => a < b) (fun x => by omega) (fun x y z h k => by omega) hl hm h
theorem star_le {n : Nat} (hA : ∀ i j, A i j → j ≤ n) {x y : Nat} (hx : x ≤ n) (h : Mw.Star A x y) : y ≤ n := by
  cases h with
  | refl => exact hx
  | step _ a => exact hA _ _ a
/-- the class of a spot, ascending -/
noncomputable def cls (A : Nat → Nat → Prop) (n s : Nat) : List Nat := (List.range (n + 1)).filter fun i => decide (Mw.Star A s i)
theorem mem_cls {n s i : Nat} : i ∈ cls A n s ↔ i ≤ n ∧ Mw.Star A s i := by
  unfold cls
  rw [List.mem_filter, List.mem_range, decide_eq_true_iff]
  constructor <;> exact fun ⟨a, b⟩ => ⟨by omega, b⟩
theorem cls_len (n s : Nat) : (cls A n s).length ≤ n + 1 := by
  have := List.length_filter_le (fun i => decide (Mw.Star A s i)) (List.range (n + 1))
  rwa [List.length_range] at this
theorem range_lt (n : Nat) : (List.range n).Pairwise (· < ·) := List.pairwise_lt_range
theorem cls_lt (n s : Nat) : ((cls A n s).map fun i : Nat => (i : Int)).Pairwise (· < ·) := by
  rw [List.pairwise_map]
  exact ((range_lt (n + 1)).sublist List.filter_sublist).imp fun h => by omega
/-- first of its class -/
def Rep (A : Nat → Nat → Prop) (s : Nat) : Prop := ∀ r, r < s → ¬ Mw.Star A r s
noncomputable def classesTo (A : Nat → Nat → Prop) (n i : Nat) : List (List Nat) := ((List.range i).filter fun s => decide (Rep A s)).map (cls A n)
theorem classesTo_succ (n i : Nat) : classesTo A n (i + 1) = classesTo A n i ++ if Rep A i then [cls A n i] else [] := by
  unfold classesTo
  rw [List.range_succ, List.filter_append, List.map_append]
  congr 1
  by_cases h : Rep A i
  · rw [if_pos h]; simp [h]
  · rw [if_neg h]; simp [h]
theorem classesTo_len (n i : Nat) : (classesTo A n i).length ≤ i := by
  unfold classesTo
  rw [List.length_map]
  have := List.length_filter_le (fun s => decide (Rep A s)) (List.range i)
  rwa [List.length_range] at this
theorem mem_classesTo {n i : Nat} {c : List Nat} : c ∈ classesTo A n i ↔ ∃ s, s < i ∧ Rep A s ∧ c = cls A n s := by
  unfold classesTo
  rw [List.mem_map]
  constructor
  · rintro ⟨s, h, rfl⟩
    rw [List.mem_filter, List.mem_range, decide_eq_true_iff] at h
    exact ⟨s, h.1, h.2, rfl⟩
  · rintro ⟨s, h1, h2, rfl⟩
    exact ⟨s, by rw [List.mem_filter, List.mem_range, decide_eq_true_iff]; exact ⟨h1, h2⟩, rfl⟩
theorem rep_below (sy : ∀ i j, A i j → A j i) {r i : Nat} (h : Mw.Star A r i) : ∃ s, s ≤ r ∧ Rep A s ∧ Mw.Star A s i := by
  induction r using Nat.strongRecOn with
  | _ r ih =>
    by_cases c : Rep A r
    · exact ⟨r, Nat.le_refl _, c, h⟩
    · have : ∃ q, q < r ∧ Mw.Star A q r := by
        false_or_by_contra
        rename_i no
        exact c fun q hq sq => no ⟨q, hq, sq⟩
      obtain ⟨q, hq, sq⟩ := this
      obtain ⟨s, h1, h2, h3⟩ := ih q hq (sq.trans h)
      exact ⟨s, by omega, h2, h3⟩
theorem rep_iff (sy : ∀ i j, A i j → A j i) {n i : Nat} (hi : i ≤ n) : Rep A i ↔ ∀ c ∈ classesTo A n i, i ∉ c := by
  constructor
  · intro h c hc m
    obtain ⟨s, h1, _, rfl⟩ := mem_classesTo.mp hc
    exact h s h1 (mem_cls.mp m).2
  · intro h r hr sr
    obtain ⟨s, h1, h2, h3⟩ := rep_below sy sr
    exact h _ (mem_classesTo.mpr ⟨s, by omega, h2, rfl⟩) (mem_cls.mpr ⟨hi, h3⟩)
theorem rep_zero : Rep A 0 := fun r h => by omega
theorem classes_head (n i : Nat) : ∃ r, classesTo A n (i + 1) = cls A n 0 :: r := by
  unfold classesTo
  rw [List.range_succ_eq_map, List.filter_cons, if_pos (by simpa using rep_zero), List.map_cons]
  exact ⟨_, rfl⟩
end Mc

/-! Plain law: a relation of few spots that is led on by one and the same step again and again comes round soon. -/
namespace Mfa
open Mw (Star)
open Classical
abbrev Rel := Nat → Nat → Prop
structure Eqv (w : Nat) (R : Rel) : Prop where
  bd : ∀ {i j : Nat}, R i j → i < w ∧ j < w
  rf : ∀ {i : Nat}, i < w → R i i
  sy : ∀ {i j : Nat}, R i j → R j i
  tr : ∀ {i j k : Nat}, R i j → R j k → R i k
def Sub (R S : Rel) : Prop := ∀ i j, R i j → S i j
theorem repOf {w : Nat} {R : Rel} (h : Eqv w R) : ∀ u, u < w → ∃ a, R a u ∧ ∀ b, b < a → ¬ R b a := by
  intro u
  induction u using Nat.strongRecOn with
  | _ u ih =>
    intro hu
    by_cases c : ∃ b, b < u ∧ R b u
    · obtain ⟨b, hb, r⟩ := c
      obtain ⟨a, ra, m⟩ := ih b hb (by omega)
      exact ⟨a, h.tr ra r, m⟩
    · exact ⟨u, h.rf hu, fun b hb r => c ⟨b, hb, r⟩⟩
noncomputable def reps (w : Nat) (R : Rel) : List Nat := (List.range w).filter fun a => decide (∀ b, b < a → ¬ R b a)
theorem mem_reps {w a : Nat} {R : Rel} : a ∈ reps w R ↔ a < w ∧ ∀ b, b < a → ¬ R b a := by
  unfold reps
  rw [List.mem_filter, List.mem_range, decide_eq_true_iff]
theorem reps_lt {w : Nat} {R S : Rel} (hR : Eqv w R) (hS : Eqv w S) (s : Sub R S) (n : ¬ Sub S R) : (reps w S).length < (reps w R).length := by
  have e : reps w S = (reps w R).filter fun a => decide (∀ b, b < a → ¬ S b a) := by
    unfold reps
    rw [List.filter_filter]
    refine List.filter_congr fun a _ => ?_
    rw [Bool.eq_iff_iff, Bool.and_eq_true, decide_eq_true_iff, decide_eq_true_iff]
    exact ⟨fun h => ⟨h, fun b hb r => h b hb (s _ _ r)⟩, fun h => h.1⟩
  have ex : ∃ u v, S u v ∧ ¬ R u v := by
    refine Classical.byContradiction fun q => n fun i j h => Classical.byContradiction fun z => q ⟨i, j, h, z⟩
  obtain ⟨u, v, suv, ruv⟩ := ex
  obtain ⟨hu, hv⟩ := hS.bd suv
  obtain ⟨a, ra, ma⟩ := repOf hR u hu
  obtain ⟨b, rb, mb⟩ := repOf hR v hv
  have sab : S a b := hS.tr (s _ _ ra) (hS.tr suv (hS.sy (s _ _ rb)))
  have ne : a ≠ b := fun q => ruv (hR.tr (hR.sy ra) (q ▸ rb))
  have le : (reps w S).length ≤ (reps w R).length := by
    rw [e]
    exact List.length_filter_le _ _
  refine Nat.lt_of_le_of_ne le fun q => ?_
  rw [e, List.length_filter_eq_length_iff] at q
  have w1 := hR.bd ra
  have w2 := hR.bd rb
  rcases Nat.lt_or_gt_of_ne ne with c | c
  · have := of_decide_eq_true (q b (mem_reps.mpr ⟨w2.1, mb⟩))
    exact this a c sab
  · have := of_decide_eq_true (q a (mem_reps.mpr ⟨w1.1, ma⟩))
    exact this b c (hS.sy sab)
/-- a growing chain stands still early -/
theorem chain {w : Nat} (w0 : 0 < w) (E : Nat → Rel) (hE : ∀ t, Eqv w (E t)) (inc : ∀ t, Sub (E t) (E (t + 1))) : ∃ t, t < w ∧ Sub (E (t + 1)) (E t) := by
  refine Classical.byContradiction fun q => ?_
  have key : ∀ t, t ≤ w → (reps w (E t)).length + t ≤ w := by
    intro t
    induction t with
    | zero =>
      intro _
      unfold reps
      have := List.length_filter_le (fun a => decide (∀ b, b < a → ¬ E 0 b a)) (List.range w)
      rw [List.length_range] at this
      omega
    | succ t ih =>
      intro ht
      have a := ih (by omega)
      have b := reps_lt (hE t) (hE (t + 1)) (inc t) fun s => q ⟨t, by omega, s⟩
      omega
  have z := key w (Nat.le_refl _)
  have m : 0 ∈ reps w (E w) := mem_reps.mpr ⟨w0, fun b hb => by omega⟩
  have := List.length_pos_of_mem m
  omega
theorem star_lift {R S : Rel} (h : ∀ x y, R x y → Star S x y) {x y : Nat} (s : Star R x y) : Star S x y := by
  induction s with
  | refl => exact .refl
  | step _ r ih => exact ih.trans (h _ _ r)
section
variable {w : Nat} {G : Rel} {n : Nat → Nat}
def E (G R : Rel) : Rel := fun u v => R u v ∨ G u v
/-- one step -/
def F (w : Nat) (G : Rel) (n : Nat → Nat) (R : Rel) : Rel := fun i j => i < w ∧ j < w ∧ Star (E G R) (n i) (n j)
theorem E_symm (gs : ∀ x y, G x y → G y x) {R : Rel} (h : ∀ x y, R x y → R y x) : ∀ x y, E G R x y → E G R y x := fun x y q => q.imp (h x y) (gs x y)
theorem F_eqv (gs : ∀ x y, G x y → G y x) {R : Rel} (h : Eqv w R) : Eqv w (F w G n R) :=
  ⟨fun q => ⟨q.1, q.2.1⟩, fun l => ⟨l, l, .refl⟩, fun q => ⟨q.2.1, q.1, q.2.2.symm (E_symm gs fun _ _ => h.sy)⟩, fun a b => ⟨a.1, b.2.1, a.2.2.trans b.2.2⟩⟩
theorem F_mono {R S : Rel} (s : Sub R S) : Sub (F w G n R) (F w G n S) := fun i j q => ⟨q.1, q.2.1, q.2.2.mono fun x y r => r.imp (s x y) id⟩
def Xs (w : Nat) (G : Rel) (n : Nat → Nat) : Nat → Rel
  | 0 => fun i j => i < w ∧ i = j
  | m + 1 => F w G n (Xs w G n m)
theorem xs_eqv (gs : ∀ x y, G x y → G y x) : ∀ m, Eqv w (Xs w G n m)
  | 0 => ⟨fun q => ⟨q.1, q.2 ▸ q.1⟩, fun l => ⟨l, rfl⟩, fun q => ⟨q.2 ▸ q.1, q.2.symm⟩, fun a b => ⟨a.1, a.2.trans b.2⟩⟩
  | m + 1 => F_eqv gs (xs_eqv gs m)
theorem xs_inc : ∀ m, Sub (Xs w G n m) (Xs w G n (m + 1))
  | 0 => fun i j q => ⟨q.1, q.2 ▸ q.1, q.2 ▸ .refl⟩
  | m + 1 => F_mono (xs_inc m)
theorem xs_up {m k : Nat} (h : m ≤ k) : Sub (Xs w G n m) (Xs w G n k) := by
  induction h with
  | refl => exact fun _ _ q => q
  | step _ ih => exact fun i j q => xs_inc _ _ _ (ih _ _ q)
/-! the round -/
variable (gs : ∀ x y, G x y → G y x) {X : Rel} (hX : Eqv w X) (fx : Sub (F w G n X) X) (xf : Sub X (F w G n X))
def Y (w : Nat) (G X : Rel) : Rel := fun a b => a < w ∧ b < w ∧ Star (E G X) a b
def L (w : Nat) (G X : Rel) (n : Nat → Nat) : Rel := fun i a => i < w ∧ a < w ∧ Star (E G X) (n i) a
theorem Y_eqv (gs : ∀ x y, G x y → G y x) (hX : Eqv w X) : Eqv w (Y w G X) :=
  ⟨fun q => ⟨q.1, q.2.1⟩, fun l => ⟨l, l, .refl⟩, fun q => ⟨q.2.1, q.1, q.2.2.symm (E_symm gs fun _ _ => hX.sy)⟩, fun a b => ⟨a.1, b.2.1, a.2.2.trans b.2.2⟩⟩
theorem XY (hX : Eqv w X) : Sub X (Y w G X) := fun i j q => ⟨(hX.bd q).1, (hX.bd q).2, .one (.inl q)⟩
/-- the relation ahead of the step, with what the step itself joins -/
def S (w : Nat) (G X R : Rel) : Rel := fun a b => a < w ∧ b < w ∧ Star (fun x y => R x y ∨ Y w G X x y) a b
theorem S_eqv (gs : ∀ x y, G x y → G y x) (hX : Eqv w X) {R : Rel} (hR : Eqv w R) : Eqv w (S w G X R) :=
  ⟨fun q => ⟨q.1, q.2.1⟩, fun l => ⟨l, l, .refl⟩, fun q => ⟨q.2.1, q.1, q.2.2.symm fun _ _ h => h.imp hR.sy (Y_eqv gs hX).sy⟩, fun a b => ⟨a.1, b.2.1, a.2.2.trans b.2.2⟩⟩
theorem S_mono {R R' : Rel} (s : Sub R R') : Sub (S w G X R) (S w G X R') := fun a b q => ⟨q.1, q.2.1, q.2.2.mono fun x y h => h.imp (s x y) id⟩
def T (w : Nat) (G X : Rel) (n : Nat → Nat) (S : Rel) : Rel := fun i j => ∃ a b, L w G X n i a ∧ S a b ∧ L w G X n j b
theorem stepA (gs : ∀ x y, G x y → G y x) (hX : Eqv w X) (fx : Sub (F w G n X) X) {R : Rel} (hR : Eqv w R) (xr : Sub X R) (xfr : Sub X (F w G n R)) (i j : Nat) : F w G n R i j ↔ (X i j ∨ T w G X n (S w G X R) i j) := by
  have sX : ∀ x y, E G X x y → E G X y x := E_symm gs fun _ _ => hX.sy
  have sE := S_eqv (G := G) (X := X) gs hX hR
  constructor
  · rintro ⟨hi, hj, st⟩
    have key : ∀ v, Star (E G R) (n i) v → Star (E G X) (n i) v ∨ ∃ a b, L w G X n i a ∧ S w G X R a b ∧ Star (E G X) b v := by
      intro v h
      induction h with
      | refl => exact .inl .refl
      | @step y z _ e ih =>
        rcases e with e | e
        · obtain ⟨ly, lz⟩ := hR.bd e
          have one : S w G X R y z := ⟨ly, lz, .one (.inl e)⟩
          rcases ih with ih | ⟨a, b, l, s, q⟩
          · exact .inr ⟨y, z, ⟨hi, ly, ih⟩, one, .refl⟩
          · have yb : S w G X R b y := ⟨s.2.1, ly, .one (.inr ⟨s.2.1, ly, q⟩)⟩
            exact .inr ⟨a, z, l, sE.tr (sE.tr s yb) one, .refl⟩
        · rcases ih with ih | ⟨a, b, l, s, q⟩
          · exact .inl (ih.step (.inr e))
          · exact .inr ⟨a, b, l, s, q.step (.inr e)⟩
    rcases key _ st with q | ⟨a, b, l, s, q⟩
    · exact .inl (fx _ _ ⟨hi, hj, q⟩)
    · exact .inr ⟨a, b, l, s, hj, s.2.1, q.symm sX⟩
  · rintro (q | ⟨a, b, l, s, l2⟩)
    · exact xfr _ _ q
    · have up : ∀ {x y}, Star (E G X) x y → Star (E G R) x y := fun h => h.mono fun x y r => r.imp (xr x y) id
      have sR : ∀ x y, E G R x y → E G R y x := E_symm gs fun _ _ => hR.sy
      refine ⟨l.1, l2.1, (up l.2.2).trans (Star.trans ?_ ((up l2.2.2).symm sR))⟩
      exact star_lift (fun x y h => h.elim (fun h => .one (.inl h)) fun h => up h.2.2) s.2.2
theorem linkX (gs : ∀ x y, G x y → G y x) (hX : Eqv w X) (fx : Sub (F w G n X) X) {i j a b : Nat} (l : L w G X n i a) (y : Y w G X a b) (l2 : L w G X n j b) : X i j :=
  fx _ _ ⟨l.1, l2.1, (l.2.2.trans y.2.2).trans (l2.2.2.symm (E_symm gs fun _ _ => hX.sy))⟩
/-! what each class is led to -/
noncomputable def r (w : Nat) (G X : Rel) (a : Nat) : Nat := if h : ∃ b, Y w G X b a ∧ ∀ c, c < b → ¬ Y w G X c b then Classical.choose h else a
theorem r_spec (gs : ∀ x y, G x y → G y x) (hX : Eqv w X) {a : Nat} (ha : a < w) : Y w G X (r w G X a) a ∧ ∀ c, c < r w G X a → ¬ Y w G X c (r w G X a) := by
  have h := repOf (Y_eqv gs hX) a ha
  unfold r
  rw [dif_pos h]
  exact Classical.choose_spec h
theorem r_eq (gs : ∀ x y, G x y → G y x) (hX : Eqv w X) {a b : Nat} (y : Y w G X a b) : r w G X a = r w G X b := by
  have h1 := r_spec gs hX y.1
  have h2 := r_spec gs hX y.2.1
  have q : Y w G X (r w G X a) (r w G X b) := (Y_eqv gs hX).tr h1.1 ((Y_eqv gs hX).tr y ((Y_eqv gs hX).sy h2.1))
  rcases Nat.lt_trichotomy (r w G X a) (r w G X b) with c | c | c
  · exact absurd q (h2.2 _ c)
  · exact c
  · exact absurd ((Y_eqv gs hX).sy q) (h1.2 _ c)
theorem r_of (gs : ∀ x y, G x y → G y x) (hX : Eqv w X) {a b : Nat} (ha : a < w) (hb : b < w) (e : r w G X a = r w G X b) : Y w G X a b :=
  (Y_eqv gs hX).tr ((Y_eqv gs hX).sy (r_spec gs hX ha).1) (e ▸ (r_spec gs hX hb).1)
noncomputable def f (w : Nat) (G X : Rel) (n : Nat → Nat) (a : Nat) : Option Nat := if h : ∃ i b, Y w G X a b ∧ L w G X n i b then some (r w G X (Classical.choose h)) else none
theorem f_of (gs : ∀ x y, G x y → G y x) (hX : Eqv w X) (fx : Sub (F w G n X) X) {a b i : Nat} (y : Y w G X a b) (l : L w G X n i b) : f w G X n a = some (r w G X i) := by
  have h : ∃ i b, Y w G X a b ∧ L w G X n i b := ⟨i, b, y, l⟩
  obtain ⟨b', y', l'⟩ := Classical.choose_spec h
  unfold f
  rw [dif_pos h]
  have x : X (Classical.choose h) i := linkX gs hX fx l' ((Y_eqv gs hX).tr ((Y_eqv gs hX).sy y') y) l
  rw [r_eq gs hX (XY hX _ _ x)]
theorem f_to (gs : ∀ x y, G x y → G y x) (hX : Eqv w X) {a i : Nat} (e : f w G X n a = some i) : ∃ j b, Y w G X a b ∧ L w G X n j b ∧ i = r w G X j := by
  unfold f at e
  by_cases h : ∃ i b, Y w G X a b ∧ L w G X n i b
  · rw [dif_pos h] at e
    obtain ⟨b, y, l⟩ := Classical.choose_spec h
    exact ⟨_, b, y, l, (Option.some.inj e).symm⟩
  · rw [dif_neg h] at e
    cases e
theorem f_congr (gs : ∀ x y, G x y → G y x) (hX : Eqv w X) (fx : Sub (F w G n X) X) {a b : Nat} (y : Y w G X a b) : f w G X n a = f w G X n b := by
  cases e : f w G X n b with
  | some i =>
    obtain ⟨j, c, yc, l, rfl⟩ := f_to gs hX e
    exact f_of gs hX fx ((Y_eqv gs hX).tr y yc) l
  | none =>
    cases e2 : f w G X n a with
    | none => rfl
    | some i =>
      obtain ⟨j, c, yc, l, rfl⟩ := f_to gs hX e2
      rw [f_of gs hX fx ((Y_eqv gs hX).tr ((Y_eqv gs hX).sy y) yc) l] at e
      cases e
end
/-! a partial map, again and again -/
def it (f : Nat → Option Nat) : Nat → Option Nat → Option Nat
  | 0, x => x
  | m + 1, x => (it f m x).bind f
theorem it_add (f : Nat → Option Nat) (a : Nat) (x : Option Nat) : ∀ b, it f (a + b) x = it f b (it f a x)
  | 0 => rfl
  | b + 1 => by show (it f (a + b) x).bind f = (it f b (it f a x)).bind f; rw [it_add f a x b]
theorem it_none (f : Nat → Option Nat) : ∀ m, it f m none = none
  | 0 => rfl
  | m + 1 => by show (it f m none).bind f = none; rw [it_none f m]; rfl
theorem it_some {f : Nat → Option Nat} {m k : Nat} {x z : Nat} (h : it f m (some x) = some z) (l : k ≤ m) : ∃ y, it f k (some x) = some y := by
  cases e : it f k (some x) with
  | some y => exact ⟨y, rfl⟩
  | none =>
    have : it f m (some x) = it f (m - k) (it f k (some x)) := by rw [← it_add, show k + (m - k) = m by omega]
    rw [this, e, it_none] at h
    cases h
theorem orbit {w : Nat} {f : Nat → Option Nat} (hf : ∀ a b, f a = some b → b < w) {x z : Nat} (hx : x < w) (h : it f w (some x) = some z) : ∃ p, 1 ≤ p ∧ p ≤ w ∧ it f p (some z) = some z := by
  have lt : ∀ k y, it f k (some x) = some y → y < w := by
    intro k
    cases k with
    | zero => intro y e; cases e; exact hx
    | succ k =>
      intro y e
      have e : (it f k (some x)).bind f = some y := e
      cases q : it f k (some x) with
      | none => rw [q] at e; cases e
      | some u => rw [q] at e; exact hf u y e
  have two : ∃ i j, i < j ∧ j ≤ w ∧ it f i (some x) = it f j (some x) := by
    refine Classical.byContradiction fun no => ?_
    let l := (List.range (w + 1)).map fun k => (it f k (some x)).getD 0
    have nd : l.Nodup := by
      rw [List.nodup_iff_pairwise_ne, List.pairwise_map]
      refine List.Pairwise.imp_of_mem ?_ (List.pairwise_lt_range (n := w + 1))
      intro i j mi mj hij e
      have hi := List.mem_range.mp mi
      have hj := List.mem_range.mp mj
      obtain ⟨y, ey⟩ := it_some h (show i ≤ w by omega)
      obtain ⟨u, eu⟩ := it_some h (show j ≤ w by omega)
      rw [ey, eu] at e
      have e : y = u := e
      exact no ⟨i, j, hij, by omega, by rw [ey, eu, e]⟩
    have le := Mw.nodup_le l (List.range w) nd fun y m => by
      obtain ⟨k, mk, e⟩ := List.mem_map.mp m
      obtain ⟨u, eu⟩ := it_some h (show k ≤ w by have := List.mem_range.mp mk; omega)
      rw [eu] at e
      rw [List.mem_range]
      have e : u = y := e
      rw [← e]
      exact lt k u eu
    have ll : l.length = w + 1 := by show ((List.range (w + 1)).map _).length = _; rw [List.length_map, List.length_range]
    rw [ll, List.length_range] at le
    omega
  obtain ⟨i, j, hij, hj, e⟩ := two
  refine ⟨j - i, by omega, by omega, ?_⟩
  have a : it f (w + (j - i)) (some x) = it f (j - i) (some z) := by rw [it_add, h]
  have b : it f (w + (j - i)) (some x) = it f w (some x) := by
    rw [show w + (j - i) = j + (w - i) by omega, it_add, ← e, ← it_add, show i + (w - i) = w by omega]
  rw [← a, b, h]
theorem it_mul {f : Nat → Option Nat} {p z : Nat} (h : it f p (some z) = some z) : ∀ q, it f (p * q) (some z) = some z
  | 0 => rfl
  | q + 1 => by rw [Nat.mul_succ, it_add, it_mul h q, h]
theorem dvdN (p : Nat) (h1 : 1 ≤ p) (h2 : p ≤ 14) : p * (360360 / p) = 360360 := by
  have : p = 1 ∨ p = 2 ∨ p = 3 ∨ p = 4 ∨ p = 5 ∨ p = 6 ∨ p = 7 ∨ p = 8 ∨ p = 9 ∨ p = 10 ∨ p = 11 ∨ p = 12 ∨ p = 13 ∨ p = 14 := by omega
  rcases this with rfl | rfl | rfl | rfl | rfl | rfl | rfl | rfl | rfl | rfl | rfl | rfl | rfl | rfl <;> rfl
theorem it_N {f : Nat → Option Nat} {p z : Nat} (p1 : 1 ≤ p) (p2 : p ≤ 14) (h : it f p (some z) = some z) : it f 360360 (some z) = some z := by
  rw [← dvdN p p1 p2]
  exact it_mul h _
section
variable {G : Rel} {n : Nat → Nat}
/-- the sequence comes round -/
theorem round (gs : ∀ x y, G x y → G y x) (R : Nat → Rel) (h0 : Eqv 14 (R 0)) (hs : ∀ k i j, R (k + 1) i j ↔ F 14 G n (R k) i j) : ∃ i j, i < j ∧ j ≤ 5045200 ∧ ∀ a b, R i a b ↔ R j a b := by
  have hR : ∀ k, Eqv 14 (R k) := by
    intro k
    induction k with
    | zero => exact h0
    | succ k ih =>
      have q := F_eqv (w := 14) (n := n) gs ih
      exact ⟨fun h => q.bd ((hs _ _ _).mp h), fun l => (hs _ _ _).mpr (q.rf l), fun h => (hs _ _ _).mpr (q.sy ((hs _ _ _).mp h)), fun a b => (hs _ _ _).mpr (q.tr ((hs _ _ _).mp a) ((hs _ _ _).mp b))⟩
  have xr0 : ∀ k, Sub (Xs 14 G n k) (R k) := by
    intro k
    induction k with
    | zero => exact fun i j q => q.2 ▸ h0.rf q.1
    | succ k ih => exact fun i j q => (hs _ _ _).mpr (F_mono ih _ _ q)
  obtain ⟨m, hm, fx⟩ := chain (by decide : 0 < 14) (Xs 14 G n) (xs_eqv gs) xs_inc
  have hX : Eqv 14 (Xs 14 G n m) := xs_eqv gs m
  have fx : Sub (F 14 G n (Xs 14 G n m)) (Xs 14 G n m) := fx
  have xr : ∀ k, 14 ≤ k → Sub (Xs 14 G n m) (R k) := fun k hk i j q => xr0 k _ _ (xs_up (show m ≤ k by omega) _ _ q)
  generalize Xs 14 G n m = X at fx hX xr
  let Sk : Nat → Rel := fun k => S 14 G X (R k)
  have hS : ∀ k, Eqv 14 (Sk k) := fun k => S_eqv gs hX (hR k)
  have YE := Y_eqv (w := 14) (G := G) gs hX
  have yS : ∀ k, Sub (Y 14 G X) (Sk k) := fun k a b q => ⟨q.1, q.2.1, .one (.inr q)⟩
  have A : ∀ k, 14 ≤ k → ∀ i j, R (k + 1) i j ↔ (X i j ∨ T 14 G X n (Sk k) i j) := fun k hk i j =>
    (hs k i j).trans (stepA gs hX fx (hR k) (xr k hk) (fun a b q => (hs _ _ _).mp (xr (k + 1) (by omega) _ _ q)) i j)
  let g := f 14 G X n
  let rr := r 14 G X
  have rl : ∀ a, a < 14 → rr a < 14 := fun a ha => (r_spec gs hX ha).1.1
  have ry : ∀ a, a < 14 → Y 14 G X (rr a) a := fun a ha => (r_spec gs hX ha).1
  have gl : ∀ a b, g a = some b → b < 14 := fun a b e => by
    obtain ⟨j, c, _, l, rfl⟩ := f_to gs hX e
    exact rl j l.1
  -- one step of the map takes pairs along
  have push : ∀ k, 14 ≤ k → ∀ a b i j, Sk k a b → g a = some i → g b = some j → Sk (k + 1) i j := by
    intro k hk a b i j s ea eb
    obtain ⟨i', c, yc, l, rfl⟩ := f_to gs hX ea
    obtain ⟨j', d, yd, l2, rfl⟩ := f_to gs hX eb
    have t : T 14 G X n (Sk k) i' j' := ⟨c, d, l, (hS k).tr ((hS k).sy (yS k _ _ yc)) ((hS k).tr s (yS k _ _ yd)), l2⟩
    have q : Sk (k + 1) i' j' := ⟨l.1, l2.1, .one (.inl ((A k hk i' j').mpr (.inr t)))⟩
    exact (hS (k + 1)).tr (yS _ _ _ (ry i' l.1)) ((hS (k + 1)).tr q (yS _ _ _ (YE.sy (ry j' l2.1))))
  have pushN : ∀ q k, 14 ≤ k → ∀ a b i j, Sk k a b → it g q (some a) = some i → it g q (some b) = some j → Sk (k + q) i j := by
    intro q
    induction q with
    | zero =>
      intro k hk a b i j s ea eb
      cases ea
      cases eb
      exact s
    | succ q ih =>
      intro k hk a b i j s ea eb
      have ea : (it g q (some a)).bind g = some i := ea
      have eb : (it g q (some b)).bind g = some j := eb
      cases e1 : it g q (some a) with
      | none => rw [e1] at ea; cases ea
      | some u =>
        cases e2 : it g q (some b) with
        | none => rw [e2] at eb; cases eb
        | some v =>
          rw [e1] at ea
          rw [e2] at eb
          exact push (k + q) (by omega) u v i j (ih k hk a b u v s e1 e2) ea eb
  -- what is joined later on comes from far back
  let M : Nat → Nat → Prop := fun m u => ∃ y, y < 14 ∧ it g m (some y) = some (rr u)
  have back : ∀ m k, 14 ≤ k → ∀ u v, Sk (k + m) u v → Y 14 G X u v ∨ (M m u ∧ M m v) := by
    intro m
    induction m with
    | zero => exact fun k hk u v s => .inr ⟨⟨rr u, rl u s.1, rfl⟩, ⟨rr v, rl v s.2.1, rfl⟩⟩
    | succ m ih =>
      intro k hk u v s
      have key : ∀ x, Star (fun x y => R (k + m + 1) x y ∨ Y 14 G X x y) u x → Y 14 G X u x ∨ (M (m + 1) u ∧ M (m + 1) x) := by
        intro x st
        induction st with
        | refl => exact .inl (YE.rf s.1)
        | @step y z _ e ihp =>
          have mv : ∀ {a b}, Y 14 G X a b → M (m + 1) a → M (m + 1) b := fun q ⟨t, ht, et⟩ => ⟨t, ht, by rw [et]; exact congrArg some (r_eq gs hX q)⟩
          have go : Y 14 G X y z ∨ (M (m + 1) y ∧ M (m + 1) z) := by
            rcases e with e | e
            · rcases (A (k + m) (by omega) y z).mp e with q | ⟨a, b, l, sab, l2⟩
              · exact .inl (XY hX _ _ q)
              · rcases ih k hk a b sab with q | ⟨⟨t, ht, et⟩, ⟨t2, ht2, et2⟩⟩
                · exact .inl (XY hX _ _ (linkX gs hX fx l q l2))
                · refine .inr ⟨⟨t, ht, ?_⟩, ⟨t2, ht2, ?_⟩⟩
                  · show (it g m (some t)).bind g = some (rr y)
                    rw [et]
                    exact f_of gs hX fx (ry a l.2.1) l
                  · show (it g m (some t2)).bind g = some (rr z)
                    rw [et2]
                    exact f_of gs hX fx (ry b l2.2.1) l2
            · exact .inl e
          rcases ihp with p | p
          · rcases go with q | q
            · exact .inl (YE.tr p q)
            · exact .inr ⟨mv (YE.sy p) q.1, q.2⟩
          · rcases go with q | q
            · exact .inr ⟨p.1, mv q p.2⟩
            · exact .inr ⟨p.1, q.2⟩
      exact key v s.2.2
  have grow : ∀ k, 28 ≤ k → Sub (Sk k) (Sk (k + 360360)) := by
    intro k hk u v s
    have s' : Sk (k - 14 + 14) u v := by rw [show k - 14 + 14 = k by omega]; exact s
    rcases back 14 (k - 14) (by omega) u v s' with q | ⟨⟨y, hy, ey⟩, ⟨y2, hy2, ey2⟩⟩
    · exact yS _ _ _ q
    · obtain ⟨p, p1, p2, e⟩ := orbit gl hy ey
      obtain ⟨p', p1', p2', e'⟩ := orbit gl hy2 ey2
      have a : Sk k (rr u) (rr v) := (hS k).tr (yS _ _ _ (ry u s.1)) ((hS k).tr s (yS _ _ _ (YE.sy (ry v s.2.1))))
      have b := pushN 360360 k (by omega) _ _ _ _ a (it_N p1 p2 e) (it_N p1' p2' e')
      exact (hS _).tr (yS _ _ _ (YE.sy (ry u s.1))) ((hS _).tr b (yS _ _ _ (ry v s.2.1)))
  obtain ⟨t, ht, sub⟩ := chain (by decide : 0 < 14) (fun t => Sk (28 + t * 360360)) (fun t => hS _) fun t => by
    have := grow (28 + t * 360360) (by omega)
    rw [show 28 + t * 360360 + 360360 = 28 + (t + 1) * 360360 by omega] at this
    exact this
  have up := grow (28 + t * 360360) (by omega)
  rw [show 28 + t * 360360 + 360360 = 28 + (t + 1) * 360360 by omega] at up
  refine ⟨28 + t * 360360 + 1, 28 + (t + 1) * 360360 + 1, by omega, by omega, fun a b => ?_⟩
  rw [A _ (by omega), A _ (by omega)]
  have tt : ∀ {P Q : Rel}, Sub P Q → T 14 G X n P a b → T 14 G X n Q a b := fun h ⟨c, d, l, s, l2⟩ => ⟨c, d, l, h _ _ s, l2⟩
  exact ⟨fun h => h.imp id (tt up), fun h => h.imp id (tt sub)⟩
end
end Mfa

/-! Plain law: the states of words, of which the last twelve letters and the joined spots among the last ones are kept. -/
namespace Mfb
open Mw (Star)
abbrev Wd := List Nat
def Oc (W z : Wd) (s : Nat) : Prop := ∃ a b, z = a ++ W ++ b ∧ a.length = s
def Ed (Ws : List Wd) (z : Wd) (i j : Nat) : Prop := ∃ W ∈ Ws, (j = i + W.length ∧ Oc W z i) ∨ (i = j + W.length ∧ Oc W z j)
def Cn (Ws : List Wd) (z : Wd) : Nat → Nat → Prop := Star (Ed Ws z)
theorem Ed.symm {Ws : List Wd} {z : Wd} (i j : Nat) (h : Ed Ws z i j) : Ed Ws z j i := let ⟨W, m, e⟩ := h; ⟨W, m, e.symm⟩
theorem Cn.symm {Ws : List Wd} {z : Wd} {i j : Nat} (h : Cn Ws z i j) : Cn Ws z j i := Star.symm Ed.symm h
theorem Oc.le {W z : Wd} {s : Nat} (h : Oc W z s) : s + W.length ≤ z.length := by
  obtain ⟨a, b, rfl, rfl⟩ := h
  rw [List.length_append, List.length_append]
  omega
theorem Ed.le {Ws : List Wd} {z : Wd} {i j : Nat} (h : Ed Ws z i j) : i ≤ z.length ∧ j ≤ z.length := by
  obtain ⟨W, _, ⟨e, o⟩ | ⟨e, o⟩⟩ := h <;> have := o.le <;> omega
theorem Oc.app {W z : Wd} {s : Nat} (h : Oc W z s) (y : Wd) : Oc W (z ++ y) s := by
  obtain ⟨a, b, rfl, e⟩ := h
  exact ⟨a, b ++ y, by rw [List.append_assoc (a ++ W)], e⟩
theorem Oc.pre {W z : Wd} {s : Nat} (h : Oc W z s) (y : Wd) : Oc W (y ++ z) (y.length + s) := by
  obtain ⟨a, b, rfl, rfl⟩ := h
  exact ⟨y ++ a, b, by simp only [List.append_assoc], List.length_append⟩
theorem oc_iff {W z : Wd} {s : Nat} : Oc W z s ↔ s + W.length ≤ z.length ∧ (z.drop s).take W.length = W := by
  constructor
  · intro h
    refine ⟨h.le, ?_⟩
    obtain ⟨a, b, rfl, rfl⟩ := h
    rw [List.append_assoc, List.drop_left, List.take_left]
  · rintro ⟨l, e⟩
    refine ⟨z.take s, (z.drop s).drop W.length, ?_, by rw [List.length_take]; omega⟩
    rw [List.append_assoc]
    conv => rhs; rhs; lhs; rw [← e]
    rw [List.take_append_drop, List.take_append_drop]
/-- what occurs in the front part -/
theorem Oc.front {W z y : Wd} {s : Nat} (h : Oc W (z ++ y) s) (l : s + W.length ≤ z.length) : Oc W z s := by
  obtain ⟨_, e⟩ := oc_iff.mp h
  refine oc_iff.mpr ⟨l, ?_⟩
  rw [List.drop_append_of_le_length (by omega), List.take_append_of_le_length (by rw [List.length_drop]; omega)] at e
  exact e
theorem Oc.back {W z y : Wd} {s : Nat} (h : Oc W (y ++ z) (y.length + s)) : Oc W z s := by
  obtain ⟨a, b, e, l⟩ := h
  have e' := congrArg (List.drop y.length) e
  rw [List.drop_left] at e'
  refine ⟨a.drop y.length, b, ?_, by rw [List.length_drop]; omega⟩
  rw [e', List.append_assoc, List.drop_append_of_le_length (by omega), List.append_assoc]
theorem Ed.app {Ws : List Wd} {z : Wd} {i j : Nat} (h : Ed Ws z i j) (y : Wd) : Ed Ws (z ++ y) i j := let ⟨W, m, e⟩ := h; ⟨W, m, e.imp (fun q => ⟨q.1, q.2.app y⟩) fun q => ⟨q.1, q.2.app y⟩⟩
theorem Cn.app {Ws : List Wd} {z : Wd} {i j : Nat} (h : Cn Ws z i j) (y : Wd) : Cn Ws (z ++ y) i j := Star.mono (fun _ _ e => e.app y) h
/-! ### names in order of their first places -/
def firsts (xs : List Int) : List Int := xs.foldl (fun acc x => if x ∈ acc then acc else acc ++ [x]) []
theorem firsts_snoc (xs : List Int) (x : Int) : firsts (xs ++ [x]) = if x ∈ firsts xs then firsts xs else firsts xs ++ [x] := by
  unfold firsts
  rw [List.foldl_append]
  rfl
def ren (xs : List Int) : List Nat := xs.map fun x => (firsts xs).idxOf x
theorem ren_len (xs : List Int) : (ren xs).length = xs.length := List.length_map _
theorem snoc_ind {α : Type} {P : List α → Prop} (h0 : P []) (h : ∀ xs x, P xs → P (xs ++ [x])) (xs : List α) : P xs := by
  have : ∀ n (xs : List α), xs.length = n → P xs := by
    intro n
    induction n with
    | zero => intro xs e; rw [List.length_eq_zero_iff.mp e]; exact h0
    | succ n ih =>
      intro xs e
      rcases List.eq_nil_or_concat xs with q | ⟨t, a, q⟩
      · rw [q] at e; cases e
      · rw [q, List.concat_eq_append] at e ⊢
        rw [List.length_append, List.length_singleton] at e
        exact h t a (ih t (by omega))
  exact this _ xs rfl
theorem mem_firsts (xs : List Int) (x : Int) : x ∈ firsts xs ↔ x ∈ xs := by
  induction xs using snoc_ind generalizing x with
  | h0 => exact Iff.rfl
  | h xs y ih =>
    rw [firsts_snoc]
    by_cases c : y ∈ firsts xs
    · rw [if_pos c, ih, List.mem_append, List.mem_singleton]
      exact ⟨.inl, fun q => q.elim id fun q => q ▸ (ih y).mp c⟩
    · rw [if_neg c, List.mem_append, List.mem_append, ih]
theorem idx_keep {x y : Int} : ∀ {l : List Int}, x ∈ l → (l ++ [y]).idxOf x = l.idxOf x
  | [], h => absurd h List.not_mem_nil
  | a :: l, h => by
    rw [List.cons_append, List.idxOf_cons, List.idxOf_cons]
    by_cases c : a = x
    · simp [c]
    · have m : x ∈ l := (List.mem_cons.mp h).resolve_left fun e => c e.symm
      rw [idx_keep m]
theorem idx_new {x : Int} : ∀ {l : List Int}, x ∉ l → (l ++ [x]).idxOf x = l.length
  | [], _ => by simp
  | a :: l, h => by
    have c : a ≠ x := fun e => h (e ▸ List.mem_cons_self ..)
    have m : x ∉ l := fun q => h (List.mem_cons_of_mem _ q)
    have e : (a == x) = false := by simpa using c
    rw [List.cons_append, List.idxOf_cons, e, idx_new m]
    rfl
theorem ren_snoc (xs : List Int) (x : Int) : ren (xs ++ [x]) = ren xs ++ [if x ∈ xs then (firsts xs).idxOf x else (firsts xs).length] := by
  unfold ren
  rw [List.map_append]
  by_cases c : x ∈ xs
  · have c' := (mem_firsts xs x).mpr c
    rw [firsts_snoc, if_pos c', if_pos c]
    rfl
  · have c' : x ∉ firsts xs := fun q => c ((mem_firsts xs x).mp q)
    rw [firsts_snoc, if_neg c', if_neg c]
    congr 1
    · exact List.map_congr_left fun y m => idx_keep ((mem_firsts xs y).mpr m)
    · show [(firsts xs ++ [x]).idxOf x] = _
      rw [idx_new c']
/-- the same places alike -/
def Alike (xs ys : List Int) : Prop := xs.length = ys.length ∧ ∀ (i j : Nat) (a b c d : Int), xs[i]? = some a → xs[j]? = some b → ys[i]? = some c → ys[j]? = some d → (a = b ↔ c = d)
theorem alike_ren : ∀ (xs ys : List Int), Alike xs ys → ren xs = ren ys ∧ (firsts xs).length = (firsts ys).length := by
  intro xs
  induction xs using snoc_ind with
  | h0 =>
    intro ys h
    have : ys = [] := List.length_eq_zero_iff.mp h.1.symm
    subst this
    exact ⟨rfl, rfl⟩
  | h xs x ih =>
    intro ys h
    rcases List.eq_nil_or_concat ys with q | ⟨us, y, q⟩
    · rw [q] at h
      have := h.1
      rw [List.length_append] at this
      simp at this
    · rw [List.concat_eq_append] at q
      subst q
      obtain ⟨hl, hp⟩ := h
      rw [List.length_append, List.length_append, List.length_singleton, List.length_singleton] at hl
      have le : xs.length = us.length := by omega
      have up : ∀ {l : List Int} {i : Nat} {a b : Int}, l[i]? = some a → (l ++ [b])[i]? = some a := fun {l i a b} e => by
        rw [List.getElem?_append_left (by have := List.getElem?_eq_some_iff.mp e; exact this.1)]
        exact e
      have al : Alike xs us := ⟨le, fun i j a b c d ha hb hc hd => hp i j a b c d (up ha) (up hb) (up hc) (up hd)⟩
      obtain ⟨r1, r2⟩ := ih us al
      have lx : (xs ++ [x])[xs.length]? = some x := List.getElem?_concat_length
      have ly : (us ++ [y])[xs.length]? = some y := by rw [le]; exact List.getElem?_concat_length
      have mem : x ∈ xs ↔ y ∈ us := by
        constructor
        · intro m
          obtain ⟨i, hi, e⟩ := List.getElem_of_mem m
          have ei : xs[i]? = some x := by rw [List.getElem?_eq_getElem hi, e]
          have hi' : i < us.length := by omega
          have q := (hp i xs.length x x _ y (up ei) lx (up (List.getElem?_eq_getElem hi')) ly).mp rfl
          exact q ▸ List.getElem_mem hi'
        · intro m
          obtain ⟨i, hi, e⟩ := List.getElem_of_mem m
          have ei : us[i]? = some y := by rw [List.getElem?_eq_getElem hi, e]
          have hi' : i < xs.length := by omega
          have q := (hp i xs.length _ x y y (up (List.getElem?_eq_getElem hi')) lx (up ei) ly).mpr rfl
          exact q ▸ List.getElem_mem hi'
      rw [ren_snoc, ren_snoc, r1, firsts_snoc, firsts_snoc]
      by_cases c : x ∈ xs
      · have c' := mem.mp c
        rw [if_pos c, if_pos c', if_pos ((mem_firsts _ _).mpr c), if_pos ((mem_firsts _ _).mpr c')]
        refine ⟨?_, r2⟩
        obtain ⟨i, hi, e⟩ := List.getElem_of_mem c
        have ei : xs[i]? = some x := by rw [List.getElem?_eq_getElem hi, e]
        have hi' : i < us.length := by omega
        have ey := (hp i xs.length x x _ y (up ei) lx (up (List.getElem?_eq_getElem hi')) ly).mp rfl
        have z := congrArg (fun l : List Nat => l[i]?) r1
        simp only [ren, List.getElem?_map, ei, List.getElem?_eq_getElem hi', Option.map_some] at z
        rw [← ey, Option.some.inj z]
      · have c' : ¬ y ∈ us := fun q => c (mem.mpr q)
        rw [if_neg c, if_neg c', if_neg fun q => c ((mem_firsts _ _).mp q), if_neg fun q => c' ((mem_firsts _ _).mp q), r2]
        refine ⟨rfl, ?_⟩
        rw [List.length_append, List.length_append, r2]
        rfl
theorem idx_inj {l : List Int} {x y : Int} (hx : x ∈ l) (hy : y ∈ l) (e : l.idxOf x = l.idxOf y) : x = y := by
  have h1 := List.getElem_idxOf (List.idxOf_lt_length_iff.mpr hx)
  have h2 := List.getElem_idxOf (List.idxOf_lt_length_iff.mpr hy)
  rw [← h1, ← h2]
  simp only [e]
theorem ren_eq {xs : List Int} {i j : Nat} {a b : Int} (ha : xs[i]? = some a) (hb : xs[j]? = some b) : ((ren xs)[i]? = (ren xs)[j]?) ↔ a = b := by
  unfold ren
  rw [List.getElem?_map, List.getElem?_map, ha, hb]
  constructor
  · intro e
    exact idx_inj ((mem_firsts _ _).mpr (List.mem_of_getElem? ha)) ((mem_firsts _ _).mpr (List.mem_of_getElem? hb)) (Option.some.inj e)
  · intro e
    rw [e]
theorem ren_lt {xs : List Int} {x : Nat} (h : x ∈ ren xs) : x < xs.length := by
  obtain ⟨a, m, e⟩ := List.mem_map.mp h
  have l1 := List.idxOf_lt_length_iff.mpr ((mem_firsts xs a).mpr m)
  have l2 : (firsts xs).length ≤ xs.length := by
    clear h e m l1
    induction xs using snoc_ind with
    | h0 => exact Nat.le_refl _
    | h xs y ih =>
      rw [firsts_snoc]
      split
      · rw [List.length_append]
        omega
      · rw [List.length_append, List.length_append]
        simp
        exact ih
  rw [← e]
  omega
theorem alike_of {xs ys : List Int} (e : ren xs = ren ys) : Alike xs ys := by
  have l : xs.length = ys.length := by rw [← ren_len, e, ren_len]
  refine ⟨l, fun i j a b c d ha hb hc hd => ?_⟩
  rw [← ren_eq ha hb, ← ren_eq hc hd, e]
/-! ### states -/
/-- where the marks stand -/
def pos (n k i : Nat) : Nat := if i = 0 then 0 else n - k + (i - 1)
def Lb (p : Nat → Nat) (R : Nat → Nat → Prop) (ms : List Int) : Prop := ∀ (i j : Nat) (x y : Int), ms[i]? = some x → ms[j]? = some y → (x = y ↔ Star R (p i) (p j))
def last12 (z : Wd) : Wd := z.drop (z.length - 12)
theorem last12_len (z : Wd) : (last12 z).length = min z.length 12 := by
  unfold last12
  rw [List.length_drop]
  omega
structure StOf (Ws : List Wd) (z l : Wd) (m : List Nat) : Prop where
  hl : l = last12 z
  hm : ∃ ms : List Int, m = ren ms ∧ ms.length = l.length + 2 ∧ Lb (pos z.length l.length) (Ed Ws z) ms
/-- the same state tells the same relation, and the same relation the same state -/
theorem StOf.rel {Ws : List Wd} {z l : Wd} {m : List Nat} (h : StOf Ws z l m) {i j a b : Nat} (ha : m[i]? = some a) (hb : m[j]? = some b) : a = b ↔ Cn Ws z (pos z.length l.length i) (pos z.length l.length j) := by
  obtain ⟨ms, rfl, ml, lb⟩ := h.hm
  have hi : i < ms.length := by have := (List.getElem?_eq_some_iff.mp ha).1; rw [ren_len] at this; exact this
  have hj : j < ms.length := by have := (List.getElem?_eq_some_iff.mp hb).1; rw [ren_len] at this; exact this
  have e := ren_eq (List.getElem?_eq_getElem hi) (List.getElem?_eq_getElem hj)
  rw [ha, hb] at e
  have q := lb i j _ _ (List.getElem?_eq_getElem hi) (List.getElem?_eq_getElem hj)
  exact ⟨fun z => q.mp (e.mp (congrArg some z)), fun z => Option.some.inj (e.mpr (q.mpr z))⟩
theorem StOf.len {Ws : List Wd} {z l : Wd} {m : List Nat} (h : StOf Ws z l m) : m.length = l.length + 2 := by
  obtain ⟨ms, rfl, ml, _⟩ := h.hm
  rw [ren_len, ml]
theorem StOf.same {Ws : List Wd} {z z' l : Wd} {m m' : List Nat} (h : StOf Ws z l m) (h' : StOf Ws z' l m') (q : ∀ i j, i < l.length + 2 → j < l.length + 2 → (Cn Ws z (pos z.length l.length i) (pos z.length l.length j) ↔ Cn Ws z' (pos z'.length l.length i) (pos z'.length l.length j))) : m = m' := by
  obtain ⟨ms, rfl, ml, lb⟩ := h.hm
  obtain ⟨ms', rfl, ml', lb'⟩ := h'.hm
  refine (alike_ren _ _ ⟨by omega, fun i j a b c d ha hb hc hd => ?_⟩).1
  have hi := (List.getElem?_eq_some_iff.mp ha).1
  have hj := (List.getElem?_eq_some_iff.mp hb).1
  exact (lb i j a b ha hb).trans ((q i j (by omega) (by omega)).trans (lb' i j c d hc hd).symm)
end Mfb

/-! Plain law: states of words with a letter more, and with a part again and again. -/
namespace Mfc
open Mw (Star)
open Mfb
theorem star_add {R : Nat → Nat → Prop} {u v x y : Nat} : Star (fun s t => R s t ∨ (s = u ∧ t = v) ∨ (s = v ∧ t = u)) x y ↔ Star R x y ∨ (Star R x u ∧ Star R v y) ∨ (Star R x v ∧ Star R u y) := by
  constructor
  · intro h
    induction h with
    | refl => exact .inl .refl
    | @step s t _ e ih =>
      rcases e with e | ⟨rfl, rfl⟩ | ⟨rfl, rfl⟩
      · rcases ih with q | ⟨a, b⟩ | ⟨a, b⟩
        · exact .inl (q.step e)
        · exact .inr (.inl ⟨a, b.step e⟩)
        · exact .inr (.inr ⟨a, b.step e⟩)
      · rcases ih with q | ⟨a, b⟩ | ⟨a, b⟩
        · exact .inr (.inl ⟨q, .refl⟩)
        · exact .inr (.inl ⟨a, .refl⟩)
        · exact .inl a
      · rcases ih with q | ⟨a, b⟩ | ⟨a, b⟩
        · exact .inr (.inr ⟨q, .refl⟩)
        · exact .inl a
        · exact .inr (.inr ⟨a, .refl⟩)
  · have up : ∀ {a b}, Star R a b → Star (fun s t => R s t ∨ (s = u ∧ t = v) ∨ (s = v ∧ t = u)) a b := fun h => h.mono fun _ _ => .inl
    rintro (q | ⟨a, b⟩ | ⟨a, b⟩)
    · exact up q
    · exact ((up a).step (.inr (.inl ⟨rfl, rfl⟩))).trans (up b)
    · exact ((up a).step (.inr (.inr ⟨rfl, rfl⟩))).trans (up b)
theorem Lb.iff {p : Nat → Nat} {R S : Nat → Nat → Prop} {ms : List Int} (h : Lb p R ms) (q : ∀ x y, R x y ↔ S x y) : Lb p S ms := fun i j x y hx hy => (h i j x y hx hy).trans (Star.iff q)
/-- two labels made one -/
def one (x y t : Int) : Int := if t = y then x else t
theorem Lb.join {p : Nat → Nat} {R : Nat → Nat → Prop} {ms : List Int} (h : Lb p R ms) (sy : ∀ x y, R x y → R y x) {a b : Nat} {x y : Int} (ha : ms[a]? = some x) (hb : ms[b]? = some y) : Lb p (fun s t => R s t ∨ (s = p a ∧ t = p b) ∨ (s = p b ∧ t = p a)) (ms.map (one x y)) := by
  intro i j s' t' hs ht
  rw [List.getElem?_map] at hs ht
  cases es : ms[i]? with
  | none => rw [es] at hs; cases hs
  | some s =>
    cases et : ms[j]? with
    | none => rw [et] at ht; cases ht
    | some t =>
      rw [es] at hs
      rw [et] at ht
      cases hs
      cases ht
      rw [star_add]
      have e1 := h i j s t es et
      have e2 := h i a s x es ha
      have e3 := h b j y t hb et
      have e4 := h i b s y es hb
      have e5 := h a j x t ha et
      rw [← e1, ← e2, ← e3, ← e4, ← e5]
      unfold one
      by_cases c : s = y
      · rw [if_pos c]
        by_cases d : t = y
        · rw [if_pos d]
          exact ⟨fun _ => .inl (c.trans d.symm), fun _ => rfl⟩
        · rw [if_neg d]
          exact ⟨fun q => .inr (.inr ⟨c, q⟩), fun q => by
            rcases q with q | ⟨q1, q2⟩ | ⟨_, q2⟩
            · exact absurd (q.symm.trans c) d
            · exact absurd q2.symm d
            · exact q2⟩
      · rw [if_neg c]
        by_cases d : t = y
        · rw [if_pos d]
          exact ⟨fun q => .inr (.inl ⟨q, d.symm⟩), fun q => by
            rcases q with q | ⟨q1, _⟩ | ⟨q1, _⟩
            · exact absurd (q.trans d) c
            · exact q1
            · exact absurd q1 c⟩
        · rw [if_neg d]
          exact ⟨.inl, fun q => by
            rcases q with q | ⟨_, q2⟩ | ⟨q1, _⟩
            · exact q
            · exact absurd q2.symm d
            · exact absurd q1 c⟩
/-- the edges of the letters ahead, and those of the first watches that end at the new spot -/
def Ek (Ws Vs : List Wd) (z : Wd) (c : Nat) (s t : Nat) : Prop := Ed Ws z s t ∨ ∃ W ∈ Vs, W <:+ (z ++ [c]) ∧ ((s = z.length + 1 - W.length ∧ t = z.length + 1) ∨ (s = z.length + 1 ∧ t = z.length + 1 - W.length))
theorem ek_all {Ws : List Wd} {z : Wd} {c : Nat} (hW : ∀ W ∈ Ws, 1 ≤ W.length) (s t : Nat) : Ek Ws Ws z c s t ↔ Ed Ws (z ++ [c]) s t := by
  have suf : ∀ W : Wd, W <:+ (z ++ [c]) → Oc W (z ++ [c]) (z.length + 1 - W.length) := by
    rintro W ⟨a, e⟩
    have l := congrArg List.length e
    rw [List.length_append, List.length_append, List.length_singleton] at l
    exact ⟨a, [], by rw [List.append_nil]; exact e.symm, by omega⟩
  constructor
  · rintro (h | ⟨W, m, sf, ⟨rfl, rfl⟩ | ⟨rfl, rfl⟩⟩)
    · exact h.app _
    · have o := suf W sf
      have le := o.le
      have w1 := hW W m
      rw [List.length_append, List.length_singleton] at le
      exact ⟨W, m, .inl ⟨by omega, o⟩⟩
    · have o := suf W sf
      have le := o.le
      have w1 := hW W m
      rw [List.length_append, List.length_singleton] at le
      exact ⟨W, m, .inr ⟨by omega, o⟩⟩
  · have go : ∀ W ∈ Ws, ∀ s, Oc W (z ++ [c]) s → s + W.length ≤ z.length ∨ (s = z.length + 1 - W.length ∧ s + W.length = z.length + 1 ∧ W <:+ (z ++ [c])) := by
      intro W m s o
      have le := o.le
      rw [List.length_append, List.length_singleton] at le
      rcases Nat.lt_or_ge z.length (s + W.length) with q | q
      · refine .inr ⟨by omega, by omega, ?_⟩
        obtain ⟨a, b, e, l⟩ := o
        have ll := congrArg List.length e
        rw [List.length_append, List.length_append, List.length_append, List.length_singleton] at ll
        have : b = [] := List.length_eq_zero_iff.mp (by omega)
        rw [this, List.append_nil] at e
        exact ⟨a, e.symm⟩
      · exact .inl q
    rintro ⟨W, m, ⟨rfl, o⟩ | ⟨rfl, o⟩⟩
    · rcases go W m s o with q | ⟨q1, q2, q3⟩
      · exact .inl ⟨W, m, .inl ⟨rfl, o.front q⟩⟩
      · exact .inr ⟨W, m, q3, .inl ⟨q1, q2⟩⟩
    · rcases go W m t o with q | ⟨q1, q2, q3⟩
      · exact .inl ⟨W, m, .inr ⟨rfl, o.front q⟩⟩
      · exact .inr ⟨W, m, q3, .inr ⟨q2, q1⟩⟩
theorem ek_symm {Ws Vs : List Wd} {z : Wd} {c : Nat} (s t : Nat) (h : Ek Ws Vs z c s t) : Ek Ws Vs z c t s := h.imp (Ed.symm _ _) fun ⟨W, m, q, r⟩ => ⟨W, m, q, r.symm.imp (fun z => ⟨z.2, z.1⟩) fun z => ⟨z.2, z.1⟩⟩
theorem ek_no {Ws Vs : List Wd} {W z : Wd} {c : Nat} (n : ¬ W <:+ (z ++ [c])) (s t : Nat) : Ek Ws Vs z c s t ↔ Ek Ws (Vs ++ [W]) z c s t := by
  unfold Ek
  constructor
  · rintro (h | ⟨V, m, q⟩)
    · exact .inl h
    · exact .inr ⟨V, List.mem_append.mpr (.inl m), q⟩
  · rintro (h | ⟨V, m, q⟩)
    · exact .inl h
    · rcases List.mem_append.mp m with m | m
      · exact .inr ⟨V, m, q⟩
      · rw [List.mem_singleton.mp m] at q
        exact absurd q.1 n
theorem ek_yes {Ws Vs : List Wd} {W z : Wd} {c : Nat} (y : W <:+ (z ++ [c])) (s t : Nat) : (Ek Ws Vs z c s t ∨ (s = z.length + 1 - W.length ∧ t = z.length + 1) ∨ (s = z.length + 1 ∧ t = z.length + 1 - W.length)) ↔ Ek Ws (Vs ++ [W]) z c s t := by
  unfold Ek
  constructor
  · rintro ((h | ⟨V, m, q⟩) | h)
    · exact .inl h
    · exact .inr ⟨V, List.mem_append.mpr (.inl m), q⟩
    · exact .inr ⟨W, List.mem_append.mpr (.inr (List.mem_singleton.mpr rfl)), y, h⟩
  · rintro (h | ⟨V, m, q⟩)
    · exact .inl (.inl h)
    · rcases List.mem_append.mp m with m | m
      · exact .inl (.inr ⟨V, m, q⟩)
      · rw [List.mem_singleton.mp m] at q
        exact .inr q.2
theorem ek_nil {Ws : List Wd} {z : Wd} {c : Nat} (s t : Nat) : Ed Ws z s t ↔ Ek Ws [] z c s t := ⟨.inl, fun h => h.elim id fun ⟨_, m, _⟩ => absurd m List.not_mem_nil⟩
/-- the labels of the spots with the new one -/
theorem lb_start {Ws : List Wd} {z l : Wd} {m : List Nat} (h : StOf Ws z l m) : Lb (pos z.length l.length) (Ed Ws z) (m.map Int.ofNat ++ [(m.length : Int)]) := by
  have ml := h.len
  have ll : l.length ≤ z.length := by rw [h.hl, last12_len]; omega
  have lt : ∀ (i : Nat) (a : Nat), m[i]? = some a → a < m.length := by
    obtain ⟨ms, rfl, e, _⟩ := h.hm
    intro i a q
    rw [ren_len]
    exact ren_lt (List.mem_of_getElem? q)
  have alone : ∀ {x y}, Star (Ed Ws z) x y → (x = z.length + 1 ↔ y = z.length + 1) := by
    intro x y s
    induction s with
    | refl => exact Iff.rfl
    | step _ e ih =>
      have := e.le
      rw [ih]
      constructor <;> intro q <;> omega
  have get : ∀ (i : Nat) (x : Int), (m.map Int.ofNat ++ [(m.length : Int)])[i]? = some x → (∃ a, m[i]? = some a ∧ x = (a : Int)) ∨ (i = m.length ∧ x = (m.length : Int)) := by
    intro i x e
    rcases Nat.lt_or_ge i m.length with q | q
    · rw [List.getElem?_append_left (by rw [List.length_map]; exact q), List.getElem?_map, List.getElem?_eq_getElem q] at e
      exact .inl ⟨m[i], List.getElem?_eq_getElem q, (Option.some.inj e).symm⟩
    · rw [List.getElem?_append_right (by rw [List.length_map]; exact q), List.length_map] at e
      have z0 : i - m.length = 0 := by
        rcases Nat.eq_zero_or_pos (i - m.length) with c | c
        · exact c
        · rw [List.getElem?_eq_none (by simp; omega)] at e
          cases e
      rw [z0] at e
      exact .inr ⟨by omega, (Option.some.inj e).symm⟩
  have pm : pos z.length l.length m.length = z.length + 1 := by
    unfold pos
    rw [if_neg (by omega)]
    omega
  have pl : ∀ i, i < m.length → pos z.length l.length i ≤ z.length := by
    intro i hi
    unfold pos
    split <;> omega
  intro i j x y hx hy
  rcases get i x hx with ⟨a, ea, rfl⟩ | ⟨rfl, rfl⟩
  · have ia := (List.getElem?_eq_some_iff.mp ea).1
    rcases get j y hy with ⟨b, eb, rfl⟩ | ⟨rfl, rfl⟩
    · have q := h.rel ea eb
      exact ⟨fun e => q.mp (by omega), fun s => by rw [q.mpr s]⟩
    · have la := lt i a ea
      have := pl i ia
      rw [pm]
      exact ⟨fun q => by omega, fun s => by have := (alone s).mpr rfl; omega⟩
  · rcases get j y hy with ⟨b, eb, rfl⟩ | ⟨rfl, rfl⟩
    · have ib := (List.getElem?_eq_some_iff.mp eb).1
      have lb := lt j b eb
      have := pl j ib
      rw [pm]
      exact ⟨fun q => by omega, fun s => by have := (alone s).mp rfl; omega⟩
    · exact ⟨fun _ => .refl, fun _ => rfl⟩
theorem last12_snoc (z : Wd) (c : Nat) : last12 (z ++ [c]) = if 12 < (last12 z ++ [c]).length then (last12 z ++ [c]).drop 1 else last12 z ++ [c] := by
  have e : (last12 z ++ [c]).length = min z.length 12 + 1 := by rw [List.length_append, last12_len, List.length_singleton]
  rw [e]
  unfold last12
  rw [List.length_append, List.length_singleton]
  by_cases q : 12 ≤ z.length
  · rw [if_pos (by omega), show z.length + 1 - 12 = (z.length - 12) + 1 by omega, ← List.drop_drop, List.drop_append_of_le_length (by omega)]
  · rw [if_neg (by omega), show z.length + 1 - 12 = 0 by omega, show z.length - 12 = 0 by omega, List.drop_zero, List.drop_zero]
/-- the state with the letter more -/
theorem st_step {Ws : List Wd} {z l : Wd} {c : Nat} {ms : List Int} (hl : l = last12 z) (ml : ms.length = l.length + 3) (lb : Lb (pos z.length l.length) (Ed Ws (z ++ [c])) ms) :
    StOf Ws (z ++ [c]) (if 12 < (l ++ [c]).length then (l ++ [c]).drop 1 else l ++ [c]) (ren (if 12 < (l ++ [c]).length then ms.take 1 ++ ms.drop 2 else ms)) := by
  have ll : l.length = min z.length 12 := by rw [hl, last12_len]
  have lc : (l ++ [c]).length = l.length + 1 := by rw [List.length_append, List.length_singleton]
  have zc : (z ++ [c]).length = z.length + 1 := by rw [List.length_append, List.length_singleton]
  refine ⟨by rw [last12_snoc, ← hl], _, rfl, ?_, ?_⟩
  · by_cases q : 12 < (l ++ [c]).length
    · rw [if_pos q, if_pos q, List.length_append, List.length_take, List.length_drop, List.length_drop]
      omega
    · rw [if_neg q, if_neg q]
      omega
  · by_cases q : 12 < (l ++ [c]).length
    · rw [if_pos q, if_pos q]
      have get : ∀ (i : Nat) (x : Int), (ms.take 1 ++ ms.drop 2)[i]? = some x → ms[if i = 0 then 0 else i + 1]? = some x := by
        intro i x e
        by_cases c0 : i = 0
        · subst c0
          rw [List.getElem?_append_left (by rw [List.length_take]; omega), List.getElem?_take, if_pos (by omega)] at e
          rw [if_pos rfl]
          exact e
        · rw [List.getElem?_append_right (by rw [List.length_take]; omega), List.length_take, List.getElem?_drop] at e
          rw [if_neg c0]
          rw [show 2 + (i - min 1 ms.length) = i + 1 by omega] at e
          exact e
      intro i j x y hx hy
      have := lb _ _ x y (get i x hx) (get j y hy)
      have pe : ∀ i, pos z.length l.length (if i = 0 then 0 else i + 1) = pos (z ++ [c]).length ((l ++ [c]).drop 1).length i := by
        intro i
        unfold pos
        rw [List.length_drop, zc, lc]
        by_cases c0 : i = 0
        · rw [if_pos c0, if_pos rfl, if_pos c0]
        · rw [if_neg c0, if_neg (by omega), if_neg c0]
          omega
      rw [pe, pe] at this
      exact this
    · rw [if_neg q, if_neg q]
      intro i j x y hx hy
      have := lb _ _ x y hx hy
      have pe : ∀ i, pos z.length l.length i = pos (z ++ [c]).length (l ++ [c]).length i := by
        intro i
        unfold pos
        rw [zc, lc]
        by_cases c0 : i = 0
        · rw [if_pos c0, if_pos c0]
        · rw [if_neg c0, if_neg c0]
          omega
      rw [pe, pe] at this
      exact this
theorem st_nil (Ws : List Wd) (hW : ∀ W ∈ Ws, 1 ≤ W.length) : StOf Ws [] [] [0, 0] := by
  refine ⟨rfl, [0, 0], by decide, rfl, fun i j x y hx hy => ?_⟩
  have v : ∀ (i : Nat) (x : Int), ([0, 0] : List Int)[i]? = some x → x = 0 ∧ pos 0 0 i = 0 := by
    intro i x e
    have hi := (List.getElem?_eq_some_iff.mp e).1
    have : i = 0 ∨ i = 1 := by have : i < 2 := hi; omega
    rcases this with rfl | rfl
    · cases e
      exact ⟨rfl, rfl⟩
    · cases e
      exact ⟨rfl, rfl⟩
  obtain ⟨a, b⟩ := v i x hx
  obtain ⟨c, d⟩ := v j y hy
  show x = y ↔ Star _ (pos 0 0 i) (pos 0 0 j)
  rw [a, c, b, d]
  exact ⟨fun _ => .refl, fun _ => rfl⟩
/-! ### a part again and again -/
def RR (Ws : List Wd) (z : Wd) (i j : Nat) : Prop := i < 14 ∧ j < 14 ∧ Cn Ws z (pos z.length 12 i) (pos z.length 12 j)
def GG (Ws : List Wd) (x : Wd) (u v : Nat) : Prop := 1 ≤ u ∧ 1 ≤ v ∧ Ed Ws x (u - 1) (v - 1)
def nn (p i : Nat) : Nat := if i = 0 then 0 else i + p
theorem gg_symm {Ws : List Wd} {x : Wd} : ∀ u v, GG Ws x u v → GG Ws x v u := fun u v h => ⟨h.2.1, h.1, h.2.2.symm⟩
theorem rr_eqv (Ws : List Wd) (z : Wd) : Mfa.Eqv 14 (RR Ws z) :=
  ⟨fun h => ⟨h.1, h.2.1⟩, fun l => ⟨l, l, .refl⟩, fun h => ⟨h.2.1, h.1, h.2.2.symm⟩, fun a b => ⟨a.1, b.2.1, a.2.2.trans b.2.2⟩⟩
def PA (E : Nat → Nat → Prop) (D v s : Nat) : Prop := D ≤ s ∧ Star E v (s - D + 1)
def PB (E : Nat → Nat → Prop) (Ws : List Wd) (z : Wd) (v s : Nat) : Prop := s ≤ z.length ∧ ∃ q, q < 14 ∧ Star E v q ∧ Cn Ws z (pos z.length 12 q) s
theorem glue {Ws : List Wd} (hW : ∀ W ∈ Ws, W.length ≤ 12) {z y : Wd} (hz : 12 ≤ z.length) (i j : Nat) : RR Ws (z ++ y) i j ↔ Mfa.F 14 (GG Ws (last12 z ++ y)) (nn y.length) (RR Ws z) i j := by
  have zl : (z ++ y).length = z.length + y.length := List.length_append
  have dec : z ++ y = z.take (z.length - 12) ++ (last12 z ++ y) := by
    unfold last12
    rw [← List.append_assoc, List.take_append_drop]
  have tl : (z.take (z.length - 12)).length = z.length - 12 := by rw [List.length_take]; omega
  have ps : ∀ q, q ≠ 0 → pos z.length 12 q = z.length - 12 + (q - 1) := fun q h => by unfold pos; rw [if_neg h]
  constructor
  · rintro ⟨hi, hj, st⟩
    refine ⟨hi, hj, ?_⟩
    obtain ⟨E, hE⟩ : ∃ E, E = Mfa.E (GG Ws (last12 z ++ y)) (RR Ws z) := ⟨_, rfl⟩
    rw [← hE]
    have eR : ∀ {u v}, RR Ws z u v → E u v := fun q => by rw [hE]; exact .inl q
    have eG : ∀ {u v}, GG Ws (last12 z ++ y) u v → E u v := fun q => by rw [hE]; exact .inr q
    clear hE
    obtain ⟨v0, hv0⟩ : ∃ v0, v0 = nn y.length i := ⟨_, rfl⟩
    rw [← hv0]
    obtain ⟨D, hD⟩ : ∃ D, D = z.length - 12 := ⟨_, rfl⟩
    rw [← hD] at dec tl ps
    have toA : ∀ s, PA E D v0 s ∨ PB E Ws z v0 s → D ≤ s → PA E D v0 s := by
      rintro s (h | ⟨l, q, hq, h1, h2⟩) ge
      · exact h
      · refine ⟨ge, h1.step (eR ⟨hq, by omega, ?_⟩)⟩
        rw [ps (s - D + 1) (by omega), show D + (s - D + 1 - 1) = s by omega]
        exact h2
    have toB : ∀ s, PA E D v0 s ∨ PB E Ws z v0 s → s ≤ z.length → PB E Ws z v0 s := by
      rintro s (⟨ge, h⟩ | h) l
      · refine ⟨l, _, by omega, h, ?_⟩
        rw [ps _ (by omega), show D + (s - D + 1 - 1) = s by omega]
        exact .refl
      · exact h
    have bk : ∀ (W : Wd) (s : Nat), Oc W (z ++ y) s → D ≤ s → Oc W (last12 z ++ y) (s - D) := by
      intro W s o ge
      rw [dec] at o
      refine Oc.back (y := z.take D) ?_
      rw [tl, show D + (s - D) = s by omega]
      exact o
    have two : ∀ s t, Ed Ws (z ++ y) s t → (s ≤ z.length ∧ t ≤ z.length ∧ Ed Ws z s t) ∨ (D ≤ s ∧ D ≤ t ∧ Ed Ws (last12 z ++ y) (s - D) (t - D)) := by
      rintro s t ⟨W, m, ⟨e, o⟩ | ⟨e, o⟩⟩
      · have w12 := hW W m
        by_cases c : s + W.length ≤ z.length
        · exact .inl ⟨by omega, by omega, W, m, .inl ⟨e, o.front c⟩⟩
        · have g1 : D ≤ s := by omega
          have g2 : D ≤ t := by omega
          have q : t - D = s - D + W.length := by omega
          exact .inr ⟨g1, g2, W, m, .inl ⟨q, bk W s o g1⟩⟩
      · have w12 := hW W m
        by_cases c : t + W.length ≤ z.length
        · exact .inl ⟨by omega, by omega, W, m, .inr ⟨e, o.front c⟩⟩
        · have g1 : D ≤ t := by omega
          have g2 : D ≤ s := by omega
          have q : s - D = t - D + W.length := by omega
          exact .inr ⟨g2, g1, W, m, .inr ⟨q, bk W t o g1⟩⟩
    have e0 : ∀ q, q ≠ 0 → pos (z ++ y).length 12 q = D + (y.length + (q - 1)) := fun q c => by
      unfold pos
      rw [if_neg c, zl]
      omega
    have n0 : ∀ q, q ≠ 0 → D + (y.length + (q - 1)) - D + 1 = nn y.length q := fun q c => by
      unfold nn
      rw [if_neg c]
      omega
    have key : ∀ s, Star (Ed Ws (z ++ y)) (pos (z ++ y).length 12 i) s → PA E D v0 s ∨ PB E Ws z v0 s := by
      intro s h
      induction h with
      | refl =>
        by_cases c : i = 0
        · right
          subst c
          rw [hv0]
          exact ⟨Nat.zero_le _, 0, by decide, .refl, .refl⟩
        · left
          rw [e0 i c]
          refine ⟨Nat.le_add_right _ _, ?_⟩
          rw [n0 i c, hv0]
          exact .refl
      | @step s t _ e ih =>
        rcases two s t e with ⟨l1, l2, ez⟩ | ⟨g1, g2, ex⟩
        · obtain ⟨_, q, hq, h1, h2⟩ := toB s ih l1
          exact .inr ⟨l2, q, hq, h1, h2.step ez⟩
        · obtain ⟨_, h⟩ := toA s ih g1
          exact .inl ⟨g2, h.step (eG ⟨by omega, by omega, by rw [Nat.add_sub_cancel, Nat.add_sub_cancel]; exact ex⟩)⟩
    have fin := key _ st
    by_cases c : j = 0
    · subst c
      obtain ⟨_, q, hq, h1, h2⟩ := toB 0 fin (Nat.zero_le _)
      exact h1.step (eR ⟨hq, by show 0 < 14; decide, h2⟩)
    · rw [e0 j c] at fin
      obtain ⟨_, h⟩ := toA _ fin (Nat.le_add_right _ _)
      rw [n0 j c] at h
      exact h
  · rintro ⟨hi, hj, st⟩
    refine ⟨hi, hj, ?_⟩
    let dc : Nat → Nat := fun u => if u = 0 then 0 else z.length - 12 + (u - 1)
    have key : ∀ u v, Star (Mfa.E (GG Ws (last12 z ++ y)) (RR Ws z)) u v → Cn Ws (z ++ y) (dc u) (dc v) := by
      intro u v h
      induction h with
      | refl => exact .refl
      | @step s t _ e ih =>
        refine ih.trans ?_
        rcases e with ⟨_, _, q⟩ | ⟨h1, h2, q⟩
        · exact Cn.app q y
        · refine .one ?_
          show Ed Ws (z ++ y) (if s = 0 then 0 else z.length - 12 + (s - 1)) (if t = 0 then 0 else z.length - 12 + (t - 1))
          rw [if_neg (by omega), if_neg (by omega), dec]
          obtain ⟨W, m, ⟨e, o⟩ | ⟨e, o⟩⟩ := q
          · have := o.pre (z.take (z.length - 12))
            rw [tl] at this
            exact ⟨W, m, .inl ⟨by omega, this⟩⟩
          · have := o.pre (z.take (z.length - 12))
            rw [tl] at this
            exact ⟨W, m, .inr ⟨by omega, this⟩⟩
    have := key _ _ st
    have pe : ∀ q, dc (nn y.length q) = pos (z ++ y).length 12 q := by
      intro q
      show (if nn y.length q = 0 then 0 else z.length - 12 + (nn y.length q - 1)) = _
      unfold nn pos
      by_cases c : q = 0
      · rw [if_pos c, if_pos rfl, if_pos c]
      · rw [if_neg c, if_neg (by omega), if_neg c, zl]
        omega
    rw [pe, pe] at this
    exact this
def rep (k : Nat) (y : Wd) : Wd := (List.replicate k y).flatten
theorem rep_succ (k : Nat) (y : Wd) : rep (k + 1) y = rep k y ++ y := by
  unfold rep
  rw [List.replicate_succ', List.flatten_append]
  simp
theorem rep_succ' (k : Nat) (y : Wd) : rep (k + 1) y = y ++ rep k y := by
  unfold rep
  rw [List.replicate_succ, List.flatten_cons]
theorem rep_len (k : Nat) (y : Wd) : (rep k y).length = k * y.length := by
  induction k with
  | zero => simp [rep]
  | succ k ih => rw [rep_succ, List.length_append, ih, Nat.succ_mul]
theorem last12_back {a b : Wd} (h : 12 ≤ b.length) : last12 (a ++ b) = last12 b := by
  unfold last12
  rw [List.length_append, show a.length + b.length - 12 = a.length + (b.length - 12) by omega, ← List.drop_drop, List.drop_left]
/-- the states of a part again and again come round -/
theorem comes {Ws : List Wd} (hW : ∀ W ∈ Ws, W.length ≤ 12) (u y : Wd) (y1 : 1 ≤ y.length) : ∃ i j, i < j ∧ j ≤ 5045300 ∧ ∀ l l' m m', StOf Ws (u ++ rep (i + 1) y) l m → StOf Ws (u ++ rep (j + 1) y) l' m' → l = l' ∧ m = m' := by
  have big : ∀ k, 12 ≤ (rep (12 + k) y).length := fun k => by
    rw [rep_len]
    have : 12 * 1 ≤ (12 + k) * y.length := Nat.mul_le_mul (by omega) y1
    omega
  have lc : ∀ k, last12 (u ++ rep (12 + k) y) = last12 (rep 12 y) := by
    intro k
    rw [last12_back (big k)]
    induction k with
    | zero => rfl
    | succ k ih => rw [show 12 + (k + 1) = (12 + k) + 1 by omega, rep_succ', last12_back (big k), ih]
  have zl : ∀ k, 12 ≤ (u ++ rep (12 + k) y).length := fun k => by have := big k; rw [List.length_append]; omega
  obtain ⟨i, j, hij, hj, e⟩ := Mfa.round (G := GG Ws (last12 (rep 12 y) ++ y)) (n := nn y.length) gg_symm (fun k => RR Ws (u ++ rep (12 + k) y)) (rr_eqv _ _) (fun k a b => by
    have := glue hW (z := u ++ rep (12 + k) y) (y := y) (zl k) a b
    rw [lc k, List.append_assoc, ← rep_succ] at this
    exact this)
  refine ⟨i + 11, j + 11, by omega, by omega, fun l l' m m' h h' => ?_⟩
  rw [show i + 11 + 1 = 12 + i by omega] at h
  rw [show j + 11 + 1 = 12 + j by omega] at h'
  have el : l = l' := by rw [h.hl, h'.hl, lc, lc]
  subst el
  have l12 : l.length = 12 := by
    rw [h.hl, last12_len]
    have := zl i
    omega
  refine ⟨rfl, h.same h' fun a b ha hb => ?_⟩
  rw [l12] at ha hb ⊢
  have := e a b
  unfold RR at this
  exact ⟨fun q => (this.mp ⟨ha, hb, q⟩).2.2, fun q => (this.mpr ⟨ha, hb, q⟩).2.2⟩
end Mfc

/-! Plain law: the states as they are reckoned letter by letter; flags of a part again and again. -/
namespace Mfd
open Mw (Star)
open Mfb Mfc
abbrev St := Wd × List Nat
/-- a watch that ends here makes two marks one -/
def mk1 (lc : Wd) (ms : List Int) (W : Wd) : List Int := if W.isSuffixOf lc = true then ms.map (one (ms.getD (ms.length - 1 - W.length) 0) (ms.getD (ms.length - 1) 0)) else ms
def marks (Ws : List Wd) (s : St) (c : Nat) : List Int := Ws.foldl (mk1 (s.1 ++ [c])) (s.2.map Int.ofNat ++ [(s.2.length : Int)])
def step (Ws : List Wd) (s : St) (c : Nat) : St := if 12 < (s.1 ++ [c]).length then ((s.1 ++ [c]).drop 1, ren ((marks Ws s c).take 1 ++ (marks Ws s c).drop 2)) else (s.1 ++ [c], ren (marks Ws s c))
def steps (Ws : List Wd) (s : St) (y : Wd) : St := y.foldl (step Ws) s
def st0 : St := ([], [0, 0])
theorem mk1_len (lc : Wd) (ms : List Int) (W : Wd) : (mk1 lc ms W).length = ms.length := by
  unfold mk1
  split
  · rw [List.length_map]
  · rfl
theorem fold_len (lc : Wd) : ∀ (Vs : List Wd) (ms : List Int), (Vs.foldl (mk1 lc) ms).length = ms.length
  | [], _ => rfl
  | V :: Vs, ms => by rw [List.foldl_cons, fold_len lc Vs, mk1_len]
theorem marks_len (Ws : List Wd) (s : St) (c : Nat) : (marks Ws s c).length = s.2.length + 1 := by
  unfold marks
  rw [fold_len, List.length_append, List.length_map, List.length_singleton]
theorem getD_get {ms : List Int} {i : Nat} (h : i < ms.length) : ms[i]? = some (ms.getD i 0) := by
  rw [List.getD_eq_getElem?_getD, List.getElem?_eq_getElem h]
  rfl
theorem fold_lb {Ws : List Wd} (hW : ∀ W ∈ Ws, 1 ≤ W.length ∧ W.length ≤ 12) {z l : Wd} {c : Nat} (hl : l = last12 z) :
    ∀ (Vs Us : List Wd) (ms : List Int), (∀ V ∈ Vs, V ∈ Ws) → ms.length = l.length + 3 → Lb (pos z.length l.length) (Ek Ws Us z c) ms → Lb (pos z.length l.length) (Ek Ws (Us ++ Vs) z c) (Vs.foldl (mk1 (l ++ [c])) ms)
  | [], Us, ms, _, _, h => by rw [List.append_nil]; exact h
  | V :: Vs, Us, ms, hv, ml, h => by
    have hV := hW V (hv V (List.mem_cons_self ..))
    rw [List.foldl_cons, show Us ++ V :: Vs = (Us ++ [V]) ++ Vs by simp]
    refine fold_lb hW hl Vs (Us ++ [V]) _ (fun W m => hv W (List.mem_cons_of_mem _ m)) (by rw [mk1_len]; exact ml) ?_
    have ll : l.length = min z.length 12 := by rw [hl, last12_len]
    have lc : (l ++ [c]).length = l.length + 1 := by rw [List.length_append, List.length_singleton]
    have zc : (z ++ [c]).length = z.length + 1 := by rw [List.length_append, List.length_singleton]
    -- the same watches end here, in the last letters and in the whole
    have suf : V <:+ (l ++ [c]) ↔ V <:+ (z ++ [c]) := by
      have e : z ++ [c] = z.take (z.length - 12) ++ (l ++ [c]) := by
        rw [hl]
        unfold last12
        rw [← List.append_assoc, List.take_append_drop]
      constructor
      · rintro ⟨a, q⟩
        exact ⟨z.take (z.length - 12) ++ a, by rw [List.append_assoc, q, ← e]⟩
      · intro q
        rw [e] at q
        rcases Nat.lt_or_ge 12 (l.length + 1) with g | g
        · exact List.suffix_of_suffix_length_le q (List.suffix_append ..) (by rw [lc]; omega)
        · have : z.take (z.length - 12) = [] := by rw [show z.length - 12 = 0 by omega, List.take_zero]
          rw [this, List.nil_append] at q
          exact q
    unfold mk1
    by_cases q : V.isSuffixOf (l ++ [c]) = true
    · rw [if_pos q]
      have q' := List.isSuffixOf_iff_suffix.mp q
      have vl := q'.length_le
      rw [lc] at vl
      have ha := getD_get (ms := ms) (i := ms.length - 1 - V.length) (by omega)
      have hb := getD_get (ms := ms) (i := ms.length - 1) (by omega)
      have j := Lb.join h (fun x y => ek_symm x y) ha hb
      refine Lb.iff j fun s t => ?_
      rw [← ek_yes (suf.mp q') s t]
      have p1 : pos z.length l.length (ms.length - 1 - V.length) = z.length + 1 - V.length := by
        unfold pos
        rw [if_neg (by omega)]
        omega
      have p2 : pos z.length l.length (ms.length - 1) = z.length + 1 := by
        unfold pos
        rw [if_neg (by omega)]
        omega
      rw [p1, p2]
    · rw [if_neg q]
      exact Lb.iff h fun s t => ek_no (fun r => q (List.isSuffixOf_iff_suffix.mpr (suf.mpr r))) s t
theorem step_ok {Ws : List Wd} (hW : ∀ W ∈ Ws, 1 ≤ W.length ∧ W.length ≤ 12) {z : Wd} {s : St} (h : StOf Ws z s.1 s.2) (c : Nat) : StOf Ws (z ++ [c]) (step Ws s c).1 (step Ws s c).2 := by
  have lb := fold_lb hW h.hl (c := c) Ws [] _ (fun V m => m) (by rw [List.length_append, List.length_map, List.length_singleton, h.len]) (Lb.iff (lb_start h) ek_nil)
  have lb2 : Lb (pos z.length s.1.length) (Ed Ws (z ++ [c])) (marks Ws s c) := Lb.iff lb fun x y => by
    rw [List.nil_append]
    exact ek_all (fun W m => (hW W m).1) x y
  have r := st_step h.hl (by rw [marks_len, h.len]) lb2
  unfold step
  by_cases q : 12 < (s.1 ++ [c]).length
  · rw [if_pos q] at r ⊢
    rw [if_pos q] at r
    exact r
  · rw [if_neg q] at r ⊢
    rw [if_neg q] at r
    exact r
theorem steps_ok {Ws : List Wd} (hW : ∀ W ∈ Ws, 1 ≤ W.length ∧ W.length ≤ 12) : ∀ (y z : Wd) (s : St), StOf Ws z s.1 s.2 → StOf Ws (z ++ y) (steps Ws s y).1 (steps Ws s y).2
  | [], z, s, h => by rw [List.append_nil]; exact h
  | c :: y, z, s, h => by
    have := steps_ok hW y (z ++ [c]) (step Ws s c) (step_ok hW h c)
    rw [List.append_assoc] at this
    exact this
theorem steps_app (Ws : List Wd) (s : St) (x y : Wd) : steps Ws s (x ++ y) = steps Ws (steps Ws s x) y := List.foldl_append
theorem st_uniq {Ws : List Wd} {z l l' : Wd} {m m' : List Nat} (h : StOf Ws z l m) (h' : StOf Ws z l' m') : l = l' ∧ m = m' := by
  have e : l = l' := by rw [h.hl, h'.hl]
  subst e
  exact ⟨rfl, h.same h' fun _ _ _ _ => Iff.rfl⟩
theorem start_ok (Ws : List Wd) (hW : ∀ W ∈ Ws, 1 ≤ W.length ∧ W.length ≤ 12) (z : Wd) : StOf Ws z (steps Ws st0 z).1 (steps Ws st0 z).2 := steps_ok hW z [] st0 (st_nil Ws fun W m => (hW W m).1)
/-- whether the begin and the last spot hang together -/
def met (s : St) : Bool := decide (s.2[0]? = s.2[s.2.length - 1]?)
theorem met_iff {Ws : List Wd} {z : Wd} {s : St} (h : StOf Ws z s.1 s.2) : met s = true ↔ Cn Ws z 0 z.length := by
  have l := h.len
  have ll : s.1.length ≤ z.length := by rw [h.hl, last12_len]; omega
  have e0 : s.2[0]? = some s.2[0] := List.getElem?_eq_getElem (by omega)
  have e1 : s.2[s.2.length - 1]? = some (s.2[s.2.length - 1]'(by omega)) := List.getElem?_eq_getElem (by omega)
  have r := h.rel e0 e1
  unfold met
  rw [decide_eq_true_iff, e0, e1, Option.some.injEq, r]
  have p0 : pos z.length s.1.length 0 = 0 := rfl
  have p1 : pos z.length s.1.length (s.2.length - 1) = z.length := by
    unfold pos
    rw [if_neg (by omega)]
    omega
  rw [p0, p1]
/-- the states of the far word -/
def far (Ws : List Wd) (u y : Wd) (k : Nat) : St := steps Ws st0 (u ++ rep (k + 1) y)
theorem far_succ (Ws : List Wd) (u y : Wd) (k : Nat) : far Ws u y (k + 1) = steps Ws (far Ws u y k) y := by
  unfold far
  rw [rep_succ (k + 1), ← List.append_assoc, steps_app]
theorem far_zero (Ws : List Wd) (u y : Wd) : far Ws u y 0 = steps Ws (steps Ws st0 u) y := by
  unfold far
  rw [rep_succ, show rep 0 y = [] from rfl, List.nil_append, steps_app]
theorem far_round {Ws : List Wd} (hW : ∀ W ∈ Ws, 1 ≤ W.length ∧ W.length ≤ 12) (u y : Wd) (y1 : 1 ≤ y.length) : ∃ i j, i < j ∧ j ≤ 5045300 ∧ far Ws u y i = far Ws u y j := by
  obtain ⟨i, j, h1, h2, h3⟩ := comes (fun W m => (hW W m).2) u y y1
  obtain ⟨e1, e2⟩ := h3 _ _ _ _ (start_ok Ws hW (u ++ rep (i + 1) y)) (start_ok Ws hW (u ++ rep (j + 1) y))
  exact ⟨i, j, h1, h2, Prod.ext e1 e2⟩
/-- states that are all unlike are few -/
theorem far_few {Ws : List Wd} (hW : ∀ W ∈ Ws, 1 ≤ W.length ∧ W.length ≤ 12) (u y : Wd) (y1 : 1 ≤ y.length) {k : Nat} (h : ∀ i j, i < j → j < k → far Ws u y i ≠ far Ws u y j) : k ≤ 5045300 := by
  obtain ⟨i, j, h1, h2, e⟩ := far_round hW u y y1
  rcases Nat.lt_or_ge 5045300 k with q | q
  · exact absurd e (h i j h1 (by omega))
  · exact q
theorem far_shift {Ws : List Wd} {u y : Wd} {i j : Nat} (e : far Ws u y i = far Ws u y j) : ∀ k, far Ws u y (i + k) = far Ws u y (j + k)
  | 0 => e
  | k + 1 => by
    have := far_shift e k
    rw [show i + (k + 1) = (i + k) + 1 by omega, show j + (k + 1) = (j + k) + 1 by omega, far_succ, far_succ, this]
/-- the flag of the far word with k + 1 parts -/
def flag (Ws : List Wd) (u y b : Wd) (k : Nat) : Bool := met (steps Ws (far Ws u y k) b)
theorem flag_iff {Ws : List Wd} (hW : ∀ W ∈ Ws, 1 ≤ W.length ∧ W.length ≤ 12) (u y b : Wd) (k : Nat) : flag Ws u y b k = true ↔ Cn Ws (u ++ rep (k + 1) y ++ b) 0 (u ++ rep (k + 1) y ++ b).length := by
  unfold flag
  have h := start_ok Ws hW (u ++ rep (k + 1) y ++ b)
  rw [steps_app] at h
  exact met_iff h
/-- what flags_of tells -/
structure Flags (Ws : List Wd) (u y b : Wd) (fl : List Bool) (st : Nat) : Prop where
  lt : st < fl.length
  few : fl.length ≤ 5045300
  is : ∀ k, k < fl.length → fl[k]? = some (flag Ws u y b k)
  again : ∀ k, flag Ws u y b (st + k) = flag Ws u y b (fl.length + k)
theorem flags_of {Ws : List Wd} (hW : ∀ W ∈ Ws, 1 ≤ W.length ∧ W.length ≤ 12) (u y b : Wd) (y1 : 1 ≤ y.length) {n i : Nat} (hi : i < n) (h : ∀ i j, i < j → j < n → far Ws u y i ≠ far Ws u y j) (e : far Ws u y i = far Ws u y n) : Flags Ws u y b ((List.range n).map (flag Ws u y b)) i := by
  have l : ((List.range n).map (flag Ws u y b)).length = n := by rw [List.length_map, List.length_range]
  refine ⟨by rw [l]; exact hi, by rw [l]; exact far_few hW u y y1 h, fun k hk => ?_, fun k => ?_⟩
  · rw [l] at hk
    rw [List.getElem?_map, List.getElem?_range hk]
    rfl
  · rw [l]
    unfold flag
    rw [far_shift e k]
end Mfd

/-! rows of flags that come round: ahead and round, as short as can be. -/
namespace Mfe
def Per (xs : List Bool) (m : Nat) : Prop := xs.length % m = 0 ∧ (List.replicate (xs.length / m) (xs.take m)).flatten = xs
theorem rep_get {α : Type} (xs : List α) : ∀ (n i : Nat), i < n * xs.length → ((List.replicate n xs).flatten)[i]? = xs[i % xs.length]?
  | 0, i, h => by rw [Nat.zero_mul] at h; exact absurd h (Nat.not_lt_zero i)
  | n + 1, i, h => by
    rw [List.replicate_succ, List.flatten_cons]
    rcases Nat.lt_or_ge i xs.length with q | q
    · rw [List.getElem?_append_left q, Nat.mod_eq_of_lt q]
    · rw [List.getElem?_append_right q, rep_get xs n (i - xs.length) (by rw [Nat.succ_mul] at h; omega), ← Nat.mod_eq_sub_mod q]
theorem rep_len {α : Type} (xs : List α) (n : Nat) : ((List.replicate n xs).flatten).length = n * xs.length := by
  induction n with
  | zero => simp
  | succ n ih => rw [List.replicate_succ, List.flatten_cons, List.length_append, ih, Nat.succ_mul]; omega
theorem per_iff {xs : List Bool} {j : Nat} (j1 : 1 ≤ j) (jl : j ≤ xs.length) : Per xs j ↔ xs.length % j = 0 ∧ ∀ i, i < xs.length → xs[i]? = xs[i % j]? := by
  have tl : (xs.take j).length = j := by rw [List.length_take]; exact Nat.min_eq_left jl
  unfold Per
  refine and_congr_right fun h0 => ?_
  have dv : xs.length / j * j = xs.length := Nat.div_mul_cancel (Nat.dvd_of_mod_eq_zero h0)
  have hg : ∀ i, i < xs.length → ((List.replicate (xs.length / j) (xs.take j)).flatten)[i]? = xs[i % j]? := fun i hi => by
    rw [rep_get _ _ _ (by rw [tl, dv]; exact hi), tl, List.getElem?_take, if_pos (Nat.mod_lt _ j1)]
  constructor
  · intro h i hi
    have := hg i hi
    rw [h] at this
    exact this
  · intro h
    refine List.ext_getElem? fun i => ?_
    rcases Nat.lt_or_ge i xs.length with q | q
    · rw [hg i q, h i q]
    · rw [List.getElem?_eq_none (by rw [rep_len, tl, dv]; exact q), List.getElem?_eq_none q]
/-- the flag that ahead and round tell of a place -/
def at_ (ah rd : List Bool) (k : Nat) : Option Bool := if k < ah.length then ah[k]? else rd[(k - ah.length) % rd.length]?
structure Rep (f : Nat → Bool) (ah rd : List Bool) : Prop where
  pos : 1 ≤ rd.length
  is : ∀ k, at_ ah rd k = some (f k)
def Prim (rd : List Bool) : Prop := ∀ j, 1 ≤ j → j < rd.length → ¬ Per rd j
def Last (ah rd : List Bool) : Prop := ∀ a' r' x, ah = a' ++ [x] → rd ≠ r' ++ [x]
section
variable {f : Nat → Bool} {ah rd ah' rd' : List Bool}
theorem Rep.ahd (R : Rep f ah rd) {k : Nat} (h : k < ah.length) : ah[k]? = some (f k) := by
  have := R.is k
  unfold at_ at this
  rw [if_pos h] at this
  exact this
theorem Rep.rnd (R : Rep f ah rd) {k : Nat} (h : ah.length ≤ k) : rd[(k - ah.length) % rd.length]? = some (f k) := by
  have := R.is k
  unfold at_ at this
  rw [if_neg (by omega)] at this
  exact this
theorem Rep.per (R : Rep f ah rd) (k : Nat) (h : ah.length ≤ k) : f (k + rd.length) = f k := by
  have h1 := R.rnd h
  have h2 := R.rnd (k := k + rd.length) (by omega)
  rw [show k + rd.length - ah.length = k - ah.length + rd.length by omega, Nat.add_mod_right, h1] at h2
  exact (Option.some.inj h2).symm
theorem per_mul {d N : Nat} (h : ∀ k, N ≤ k → f (k + d) = f k) : ∀ q k, N ≤ k → f (k + d * q) = f k
  | 0, k, _ => by rw [Nat.mul_zero]; rfl
  | q + 1, k, hk => by
    rw [Nat.mul_succ, ← Nat.add_assoc, h _ (by omega)]
    exact per_mul h q k hk
theorem Rep.least (R : Rep f ah rd) (Pm : Prim rd) : ∀ d N, 1 ≤ d → (∀ k, N ≤ k → f (k + d) = f k) → rd.length ≤ d := by
  intro d
  induction d using Nat.strongRecOn with
  | ind d ih =>
    intro N d1 h
    rcases Nat.lt_or_ge d rd.length with lt | ge
    · have e := Nat.div_add_mod rd.length d
      have rl : rd.length % d < d := Nat.mod_lt _ d1
      rcases Nat.eq_zero_or_pos (rd.length % d) with z | z
      · refine absurd ((per_iff d1 (Nat.le_of_lt lt)).mpr ⟨z, fun i hi => ?_⟩) (Pm d d1 lt)
        have il : i % d < rd.length := Nat.lt_of_lt_of_le (Nat.mod_lt _ d1) (Nat.le_of_lt lt)
        have ed := Nat.div_add_mod i d
        -- far beyond N
        have big : N ≤ ah.length + rd.length * N := by
          have : N * 1 ≤ N * rd.length := Nat.mul_le_mul_left N R.pos
          rw [Nat.mul_comm rd.length N]
          omega
        have g : ∀ j, j < rd.length → rd[j]? = some (f (ah.length + rd.length * N + j)) := fun j hj => by
          have := R.rnd (k := ah.length + rd.length * N + j) (by omega)
          rw [show ah.length + rd.length * N + j - ah.length = j + rd.length * N by omega, Nat.add_mul_mod_self_left, Nat.mod_eq_of_lt hj] at this
          exact this
        rw [g i hi, g _ il]
        have := per_mul h (i / d) (ah.length + rd.length * N + i % d) (by omega)
        rw [← this]
        congr 2
        omega
      · have := ih (rd.length % d) rl (N + ah.length) z fun k hk => by
          have p1 := per_mul h (rd.length / d) (k + rd.length % d) (by omega)
          have p2 := R.per k (by omega)
          rw [← p1, ← p2]
          congr 1
          omega
        omega
    · exact ge
theorem len_eq (R : Rep f ah rd) (L' : Last ah' rd') (R' : Rep f ah' rd') (e : rd.length = rd'.length) : ah'.length ≤ ah.length := by
  rcases Nat.lt_or_ge ah.length ah'.length with lt | ge
  · exfalso
    have n0 : 1 ≤ ah'.length := by omega
    have h1 := R.per (ah'.length - 1) (by omega)
    have h2 := R'.ahd (k := ah'.length - 1) (by omega)
    have h3 := R'.rnd (k := ah'.length - 1 + rd.length) (by have := R.pos; omega)
    have p := R.pos
    rw [show (ah'.length - 1 + rd.length - ah'.length) = rd'.length - 1 by omega, Nat.mod_eq_of_lt (by omega), h1] at h3
    refine L' ah'.dropLast rd'.dropLast (f (ah'.length - 1)) ?_ ?_
    · have := (List.dropLast_concat_getLast (List.ne_nil_of_length_pos n0)).symm
      rw [List.getLast_eq_getElem] at this
      rw [List.getElem?_eq_getElem (by omega)] at h2
      rw [Option.some.inj h2] at this
      exact this
    · have := (List.dropLast_concat_getLast (List.ne_nil_of_length_pos R'.pos)).symm
      rw [List.getLast_eq_getElem] at this
      rw [List.getElem?_eq_getElem (by have := R'.pos; omega)] at h3
      rw [Option.some.inj h3] at this
      exact this
  · exact ge
theorem uniq (R : Rep f ah rd) (Pm : Prim rd) (L : Last ah rd) (R' : Rep f ah' rd') (Pm' : Prim rd') (L' : Last ah' rd') : ah = ah' ∧ rd = rd' := by
  have e : rd.length = rd'.length := Nat.le_antisymm (R.least Pm _ _ R'.pos fun k hk => R'.per k hk) (R'.least Pm' _ _ R.pos fun k hk => R.per k hk)
  have ea : ah.length = ah'.length := Nat.le_antisymm (len_eq R' L R e.symm) (len_eq R L' R' e)
  constructor
  · refine List.ext_getElem? fun i => ?_
    rcases Nat.lt_or_ge i ah.length with q | q
    · rw [R.ahd q, R'.ahd (by omega)]
    · rw [List.getElem?_eq_none q, List.getElem?_eq_none (by omega)]
  · refine List.ext_getElem? fun i => ?_
    rcases Nat.lt_or_ge i rd.length with q | q
    · have h1 := R.rnd (k := ah.length + i) (by omega)
      have h2 := R'.rnd (k := ah.length + i) (by omega)
      rw [show ah.length + i - ah.length = i by omega, Nat.mod_eq_of_lt q] at h1
      rw [show ah.length + i - ah'.length = i by omega, Nat.mod_eq_of_lt (by omega)] at h2
      rw [h1, h2]
    · rw [List.getElem?_eq_none q, List.getElem?_eq_none (by omega)]
end
/-! ### rolled back -/
theorem Rep.roll {f : Nat → Bool} {a r : List Bool} {x : Bool} (R : Rep f (a ++ [x]) (r ++ [x])) : Rep f a (x :: r) := by
  have pl : (r ++ [x]).length = r.length + 1 := by rw [List.length_append]; rfl
  have al : (a ++ [x]).length = a.length + 1 := by rw [List.length_append]; rfl
  refine ⟨by rw [List.length_cons]; omega, fun k => ?_⟩
  unfold at_
  rcases Nat.lt_or_ge k a.length with q | q
  · rw [if_pos q]
    have := R.ahd (k := k) (by omega)
    rw [List.getElem?_append_left q] at this
    exact this
  · rw [if_neg (by omega), List.length_cons]
    rcases Nat.eq_or_lt_of_le q with e | lt
    · have := R.ahd (k := k) (by omega)
      rw [List.getElem?_append_right (by omega)] at this
      rw [show k - a.length = 0 by omega] at this ⊢
      rw [Nat.zero_mod]
      exact this
    · have := R.rnd (k := k) (by omega)
      rw [al, pl] at this
      rw [← this, show k - a.length = (k - (a.length + 1)) + 1 by omega]
      generalize k - (a.length + 1) = j
      have jl : j % (r.length + 1) < r.length + 1 := Nat.mod_lt _ (Nat.succ_pos _)
      rw [Nat.add_mod]
      rcases Nat.lt_or_ge (j % (r.length + 1)) r.length with c | c
      · have : (j % (r.length + 1) + 1 % (r.length + 1)) % (r.length + 1) = j % (r.length + 1) + 1 := by
          rw [Nat.mod_eq_of_lt (show 1 < r.length + 1 by omega), Nat.mod_eq_of_lt (by omega)]
        rw [this, List.getElem?_cons_succ, List.getElem?_append_left c]
      · have ej : j % (r.length + 1) = r.length := by omega
        rw [ej, List.getElem?_append_right (Nat.le_refl _), Nat.sub_self]
        have : (r.length + 1 % (r.length + 1)) % (r.length + 1) = 0 := by
          rcases Nat.eq_zero_or_pos r.length with z | z
          · rw [z]
          · rw [Nat.mod_eq_of_lt (show 1 < r.length + 1 by omega), Nat.mod_self]
        rw [this]
        rfl
theorem rot_get {r : List Bool} {x : Bool} {i : Nat} (h : i < r.length + 1) : (r ++ [x])[i]? = (x :: r)[(i + 1) % (r.length + 1)]? := by
  rcases Nat.lt_or_ge i r.length with c | c
  · rw [List.getElem?_append_left c, Nat.mod_eq_of_lt (by omega), List.getElem?_cons_succ]
  · rw [show i = r.length by omega, List.getElem?_append_right (Nat.le_refl _), Nat.sub_self, Nat.mod_self]
    rfl
theorem prim_roll {r : List Bool} {x : Bool} (h : Prim (r ++ [x])) : Prim (x :: r) := by
  have pl : (r ++ [x]).length = r.length + 1 := by rw [List.length_append]; rfl
  intro j j1 jl hp
  rw [List.length_cons] at jl
  refine h j j1 (by rw [pl]; exact jl) ?_
  rw [per_iff j1 (by rw [List.length_cons]; omega), List.length_cons] at hp
  rw [per_iff j1 (by rw [pl]; omega), pl]
  obtain ⟨h0, hs⟩ := hp
  have dv : j ∣ r.length + 1 := Nat.dvd_of_mod_eq_zero h0
  refine ⟨h0, fun i hi => ?_⟩
  have ij : i % j < r.length + 1 := Nat.lt_of_lt_of_le (Nat.mod_lt _ j1) (by omega)
  rw [rot_get hi, rot_get ij, hs _ (Nat.mod_lt _ (Nat.succ_pos _)), hs ((i % j + 1) % (r.length + 1)) (Nat.mod_lt _ (Nat.succ_pos _)), Nat.mod_mod_of_dvd _ dv, Nat.mod_mod_of_dvd _ dv]
  congr 1
  rw [Nat.add_mod i 1 j, Nat.add_mod (i % j) 1 j, Nat.mod_mod]
/-! ### the flags as they are first told -/
theorem rep_flags {f : Nat → Bool} {fl : List Bool} {st : Nat} (lt : st < fl.length) (is : ∀ k, k < fl.length → fl[k]? = some (f k)) (again : ∀ k, f (st + k) = f (fl.length + k)) : Rep f (fl.take st) (fl.drop st) := by
  have tl : (fl.take st).length = st := by rw [List.length_take]; exact Nat.min_eq_left (Nat.le_of_lt lt)
  have dl : (fl.drop st).length = fl.length - st := List.length_drop
  refine ⟨by rw [dl]; omega, fun k => ?_⟩
  unfold at_
  rw [tl, dl]
  by_cases c : k < st
  · rw [if_pos c, List.getElem?_take, if_pos c]
    exact is k (by omega)
  · rw [if_neg c, List.getElem?_drop]
    have go : ∀ k, st ≤ k → f k = f (st + (k - st) % (fl.length - st)) := by
      intro k
      induction k using Nat.strongRecOn with
      | ind k ih =>
        intro hk
        rcases Nat.lt_or_ge k fl.length with q | q
        · rw [Nat.mod_eq_of_lt (by omega)]
          congr 1
          omega
        · have h1 := again (k - fl.length)
          rw [show fl.length + (k - fl.length) = k by omega] at h1
          rw [← h1, ih (st + (k - fl.length)) (by omega) (by omega)]
          congr 2
          rw [Nat.mod_eq_sub_mod (a := k - st) (b := fl.length - st) (by omega)]
          congr 1
          omega
    have ml : (k - st) % (fl.length - st) < fl.length - st := Nat.mod_lt _ (by omega)
    rw [is _ (by omega), ← go k (by omega)]
theorem rep_take {f : Nat → Bool} {ah rd : List Bool} {m : Nat} (R : Rep f ah rd) (m1 : 1 ≤ m) (ml : m ≤ rd.length) (p : Per rd m) : Rep f ah (rd.take m) := by
  have tl : (rd.take m).length = m := by rw [List.length_take]; exact Nat.min_eq_left ml
  obtain ⟨h0, hs⟩ := (per_iff m1 ml).mp p
  refine ⟨by rw [tl]; exact m1, fun k => ?_⟩
  unfold at_
  by_cases c : k < ah.length
  · rw [if_pos c]
    exact R.ahd c
  · rw [if_neg c, tl, List.getElem?_take, if_pos (Nat.mod_lt _ m1), ← R.rnd (k := k) (by omega), hs _ (Nat.mod_lt _ R.pos), Nat.mod_mod_of_dvd _ (Nat.dvd_of_mod_eq_zero h0)]
theorem prim_take {rd : List Bool} {m : Nat} (m1 : 1 ≤ m) (ml : m ≤ rd.length) (p : Per rd m) (least : ∀ j, 1 ≤ j → j < m → ¬ Per rd j) : Prim (rd.take m) := by
  have tl : (rd.take m).length = m := by rw [List.length_take]; exact Nat.min_eq_left ml
  obtain ⟨h0, hs⟩ := (per_iff m1 ml).mp p
  intro j j1 jl hp
  rw [tl] at jl
  obtain ⟨g0, gs⟩ := (per_iff j1 (by rw [tl]; omega)).mp hp
  rw [tl] at g0 gs
  have dv := Nat.dvd_of_mod_eq_zero g0
  refine least j j1 jl ((per_iff j1 (by omega)).mpr ⟨Nat.mod_eq_zero_of_dvd (Nat.dvd_trans dv (Nat.dvd_of_mod_eq_zero h0)), fun i hi => ?_⟩)
  have im : i % m < m := Nat.mod_lt _ m1
  have ij : i % j < m := Nat.lt_of_lt_of_le (Nat.mod_lt _ j1) (by omega)
  have := gs (i % m) im
  rw [List.getElem?_take, if_pos im, Nat.mod_mod_of_dvd _ dv, List.getElem?_take, if_pos ij] at this
  rw [hs i hi, this]
end Mfe

/-! far words cut otherwise; a letter that no watch has; a watch that is the whole middle. -/
namespace Mff
open Mw (Star)
open Mfb Mfc Mfd
theorem flag_ext {Ws : List Wd} (hW : ∀ W ∈ Ws, 1 ≤ W.length ∧ W.length ≤ 12) {u y b u' y' b' : Wd} {k k' : Nat} (e : u ++ rep (k + 1) y ++ b = u' ++ rep (k' + 1) y' ++ b') : flag Ws u y b k = flag Ws u' y' b' k' := by
  rw [Bool.eq_iff_iff, flag_iff hW, flag_iff hW, e]
theorem rep_two (y : Wd) : ∀ k, rep k (y ++ y) = rep (2 * k) y
  | 0 => rfl
  | k + 1 => by rw [rep_succ, rep_two y k, show 2 * (k + 1) = 2 * k + 1 + 1 by omega, rep_succ, rep_succ, List.append_assoc]
theorem rep_turn (y z : Wd) : ∀ k, y ++ rep k (z ++ y) = rep k (y ++ z) ++ y
  | 0 => by simp [rep]
  | k + 1 => by rw [rep_succ, ← List.append_assoc, rep_turn y z k, rep_succ]; simp only [List.append_assoc]
theorem flag_further {Ws : List Wd} (hW : ∀ W ∈ Ws, 1 ≤ W.length ∧ W.length ≤ 12) (u y b : Wd) (k : Nat) : flag Ws u y b (k + 1) = flag Ws (u ++ y) y b k := flag_ext hW (by rw [rep_succ']; simp only [List.append_assoc])
theorem flag_double {Ws : List Wd} (hW : ∀ W ∈ Ws, 1 ≤ W.length ∧ W.length ≤ 12) (u y b : Wd) (k : Nat) : flag Ws u y b (2 * k + 1) = flag Ws u (y ++ y) b k := flag_ext hW (by rw [rep_two, show 2 * k + 1 + 1 = 2 * (k + 1) by omega])
theorem flag_turned {Ws : List Wd} (hW : ∀ W ∈ Ws, 1 ≤ W.length ∧ W.length ≤ 12) (u y z b : Wd) (k : Nat) : flag Ws u (y ++ z) b (k + 1) = flag Ws (u ++ y) (z ++ y) (z ++ b) k := flag_ext hW (by
  have := rep_turn y z (k + 1)
  rw [rep_succ (k + 1) (y ++ z)]
  calc u ++ (rep (k + 1) (y ++ z) ++ (y ++ z)) ++ b = u ++ (rep (k + 1) (y ++ z) ++ y) ++ (z ++ b) := by simp only [List.append_assoc]
    _ = u ++ (y ++ rep (k + 1) (z ++ y)) ++ (z ++ b) := by rw [this]
    _ = u ++ y ++ rep (k + 1) (z ++ y) ++ (z ++ b) := by simp only [List.append_assoc])
/-- a letter at the end that no watch has -/
theorem not_end {Ws : List Wd} (hW : ∀ W ∈ Ws, 1 ≤ W.length) {z : Wd} {c : Nat} (no : ∀ W ∈ Ws, c ∉ W) : ¬ Cn Ws (z ++ [c]) 0 (z ++ [c]).length := by
  have bad : ∀ W ∈ Ws, ∀ s, Oc W (z ++ [c]) s → s + W.length ≠ (z ++ [c]).length := fun W m s h e => by
    obtain ⟨a, b, h1, h2⟩ := h
    have hl := congrArg List.length h1
    simp only [List.length_append] at hl e
    have b0 : b = [] := List.length_eq_zero_iff.mp (by omega)
    subst b0
    rw [List.append_nil] at h1
    have w1 := hW W m
    have : c ∈ W := by
      have hw : W = W.dropLast ++ [W.getLast (List.ne_nil_of_length_pos w1)] := (List.dropLast_concat_getLast _).symm
      rw [hw, ← List.append_assoc] at h1
      have := (List.append_inj' h1 rfl).2
      rw [List.cons.injEq] at this
      rw [this.1]
      exact List.getLast_mem _
    exact no W m this
  intro h
  have go : ∀ x, Cn Ws (z ++ [c]) 0 x → x ≠ (z ++ [c]).length := fun x h => by
    induction h with
    | refl => rw [List.length_append, List.length_singleton]; omega
    | step _ r ih =>
      obtain ⟨W, m, h⟩ := r
      rcases h with ⟨e, o⟩ | ⟨e, o⟩
      · rw [e]
        exact bad W m _ o
      · have := o.le
        have := hW W m
        omega
  exact go _ h rfl
theorem flag_none {Ws : List Wd} (hW : ∀ W ∈ Ws, 1 ≤ W.length ∧ W.length ≤ 12) {c : Nat} (no : ∀ W ∈ Ws, c ∉ W) (u y b : Wd) (k : Nat) : flag Ws u y (b ++ [c]) k = false := by
  cases q : flag Ws u y (b ++ [c]) k with
  | false => rfl
  | true =>
    have := (flag_iff hW u y (b ++ [c]) k).mp q
    rw [← List.append_assoc] at this
    exact absurd this (not_end (fun W m => (hW W m).1) no)
/-- a watch that is the middle -/
theorem flag_step {Ws : List Wd} (hW : ∀ W ∈ Ws, 1 ≤ W.length ∧ W.length ≤ 12) (u y : Wd) (m : y ∈ Ws) (k : Nat) (h : flag Ws u y [] k = true) : flag Ws u y [] (k + 1) = true := by
  rw [flag_iff hW, List.append_nil] at h ⊢
  rw [rep_succ (k + 1), ← List.append_assoc]
  refine .step (h.app y) ⟨y, m, .inl ⟨?_, u ++ rep (k + 1) y, [], by rw [List.append_nil], rfl⟩⟩
  rw [List.length_append (as := u ++ rep (k + 1) y)]
theorem len_le {f f' : Nat → Bool} {ah rd ah' rd' : List Bool} (R : Mfe.Rep f ah rd) (P : Mfe.Prim rd) (R' : Mfe.Rep f' ah' rd') (P' : Mfe.Prim rd') (e : ∀ k, f (k + 1) = f' k) : rd.length = rd'.length := by
  refine Nat.le_antisymm (R.least P _ (ah'.length + 1) R'.pos fun k hk => ?_) (R'.least P' _ ah.length R.pos fun k hk => ?_)
  · have := R'.per (k - 1) (by omega)
    rw [← e, ← e] at this
    rw [show k = k - 1 + 1 by omega, ← this]
    congr 1
    omega
  · have := R.per (k + 1) (by omega)
    rw [← e, ← e, ← this]
    congr 1
    omega
theorem rep_false {f : Nat → Bool} (h : ∀ k, f k = false) : Mfe.Rep f [] [false] := ⟨Nat.le_refl _, fun k => by
  unfold Mfe.at_
  rw [if_neg (show ¬ k < ([] : List Bool).length from Nat.not_lt_zero k), h k, List.length_singleton, Nat.mod_one]
  rfl⟩
theorem prim_one (b : Bool) : Mfe.Prim [b] := fun j j1 jl => by rw [List.length_singleton] at jl; omega
end Mff

/-! far words of one letter: lone lengths. -/
namespace Mfl
open Mw (Star)
open Mfb Mfc Mfd
def one (c : Nat) (ns : List Int) : List Wd := ns.map fun l => List.replicate l.toNat c
theorem oc_one {c k n s : Nat} : Oc (List.replicate k c) (List.replicate n c) s ↔ s + k ≤ n := by
  constructor
  · intro h
    have := h.le
    rw [List.length_replicate, List.length_replicate] at this
    exact this
  · intro h
    refine ⟨List.replicate s c, List.replicate (n - s - k) c, ?_, List.length_replicate⟩
    rw [List.replicate_append_replicate, List.replicate_append_replicate]
    congr 1
    omega
theorem cn_one {c : Nat} {ns : List Int} (pos : ∀ l ∈ ns, 1 ≤ l) {n : Nat} : Cn (one c ns) (List.replicate n c) 0 n ↔ M85.Reach ns n n := by
  constructor
  · intro h
    have go : ∀ x, Cn (one c ns) (List.replicate n c) 0 x → M85.Reach ns n x := fun x h => by
      induction h with
      | refl => exact .zero
      | step _ r ih =>
        obtain ⟨W, m, h⟩ := r
        obtain ⟨l, ml, rfl⟩ := List.mem_map.mp m
        have lp := pos l ml
        rcases h with ⟨e, o⟩ | ⟨e, o⟩
        · have o := oc_one.mp o
          rw [List.length_replicate] at e
          exact .step ih ml (.inl (by omega)) (by omega) (by omega)
        · have o := oc_one.mp o
          rw [List.length_replicate] at e
          exact .step ih ml (.inr (by omega)) (by omega) (by omega)
    exact go n h
  · intro h
    have go : ∀ x : Int, M85.Reach ns n x → 0 ≤ x → Cn (one c ns) (List.replicate n c) 0 x.toNat := fun x h => by
      induction h with
      | zero => exact fun _ => .refl
      | step hx ml e h0 h1 ih =>
        intro _
        have r := M85.Reach.range (by omega) hx
        have lp := pos _ ml
        rcases e with e | e
        · refine .step (ih r.1) ⟨_, List.mem_map_of_mem ml, .inl ⟨?_, oc_one.mpr ?_⟩⟩
          · rw [List.length_replicate]; omega
          · omega
        · refine .step (ih r.1) ⟨_, List.mem_map_of_mem ml, .inr ⟨?_, oc_one.mpr ?_⟩⟩
          · rw [List.length_replicate]; omega
          · omega
    have := go n h (by omega)
    rw [Int.toNat_natCast] at this
    exact this
theorem rep_one (c k m : Nat) : rep k (List.replicate m c) = List.replicate (k * m) c := by
  unfold rep
  induction k with
  | zero => simp
  | succ k ih => rw [List.replicate_succ, List.flatten_cons, ih, List.replicate_append_replicate]; congr 1; rw [Nat.succ_mul]; omega
/-- the flags of a far word of one letter -/
theorem flag_one {c : Nat} {ns : List Int} (ok : ∀ l ∈ ns, 1 ≤ l ∧ l ≤ 12) (u y b k : Nat) : flag (one c ns) (List.replicate u c) (List.replicate y c) (List.replicate b c) k = true ↔ M85.Reach ns ((u + (k + 1) * y + b : Nat) : Int) ((u + (k + 1) * y + b : Nat) : Int) := by
  have hW : ∀ W ∈ one c ns, 1 ≤ W.length ∧ W.length ≤ 12 := fun W m => by
    obtain ⟨l, ml, rfl⟩ := List.mem_map.mp m
    have := ok l ml
    rw [List.length_replicate]
    omega
  rw [flag_iff hW, rep_one, List.replicate_append_replicate, List.replicate_append_replicate, List.length_replicate]
  exact cn_one fun l m => (ok l m).1
end Mfl

/-! Sorting of data of any depth, and by an own key function. -/
namespace Rs
open PySem PySem.W PyProof.Rows
theorem nsOne {h : Heap} {L : Addr} {m m' : Str → Option Value} : h.Ns L m → h.Ns L m' → m = m' := by
  rintro ⟨o, es, ep, e, d, _, r⟩ ⟨o', es', ep', e', d', _, r'⟩
  have : o = o' := Option.some.inj (e.symm.trans e')
  subst this
  rw [d] at d'
  injection d' with d1 d2
  subst d1
  funext x
  exact (r x).symm.trans (r' x)
theorem each_split {α β γ : Type} {R : α → γ → Prop} {S : γ → β → Prop} : ∀ {as : List α} {bs : List β}, EachIs (fun a b => ∃ c, R a c ∧ S c b) as bs → ∃ cs : List γ, EachIs R as cs ∧ EachIs S cs bs
  | _, _, .nil => ⟨[], .nil, .nil⟩
  | _, _, .cons ⟨c, h1, h2⟩ t => let ⟨cs, q1, q2⟩ := each_split t; ⟨c :: cs, .cons h1 q1, .cons h2 q2⟩
theorem each_get {α β : Type} {R : α → β → Prop} : ∀ {as : List α} {bs : List β}, EachIs R as bs → ∀ {i : Nat} {a : α}, as[i]? = some a → ∃ b, bs[i]? = some b ∧ R a b
  | _, _, .nil, _, _, h => by simp at h
  | _, _, .cons h t, 0, _, e => by
    simp at e
    subst e
    exact ⟨_, rfl, h⟩
  | _, _, .cons h t, i + 1, _, e => each_get t (i := i) (by simpa using e)
end Rs
namespace Rs
open PySem PySem.Spec PyProof.Rows L2 PySem.W
theorem each_vals {R : V → β → Prop} : ∀ {xs : List V} {us : List Value} {bs : List β}, Vals xs us → EachIs R xs bs → EachIs (fun u b => ∃ x, RelV x u ∧ R x b) us bs
  | _, _, _, .nil, .nil => .nil
  | _, _, _, .cons r rr, .cons h t => .cons ⟨_, r, h⟩ (each_vals rr t)
theorem vals_each {R : V → β → Prop} : ∀ {us : List Value} {bs : List β}, EachIs (fun u b => ∃ x, RelV x u ∧ R x b) us bs → ∃ xs : List V, Vals xs us ∧ EachIs R xs bs
  | _, _, .nil => ⟨[], .nil, .nil⟩
  | _, _, .cons ⟨x, r, h⟩ t => let ⟨xs, q1, q2⟩ := vals_each t; ⟨x :: xs, .cons r q1, .cons h q2⟩
/-- what is asked of the keys: alike, all tuples with an item or none a tuple, not deep -/
structure Keys (ds : List PyData) : Prop where
  al : AllAlike ds
  so : Sortable ds
  dp : ∀ d ∈ ds, d.depth ≤ 50
section
variable {X : Cx}
/-- sorted(xs), data of any depth -/
def rSortD (K : PySem.W.Frag) : List V → Hp → VK → Prop := fun vs H Q => ∃ (a : Addr) (xs : List V) (β : Type) (bs : List β) (k : β → PyData) (R : V → β → Prop), vs = [V.ref a] ∧ SqL K H a xs ∧ EachIs (fun x b => Dp K H x (k b) ∧ R x b) xs bs ∧ Keys (bs.map k) ∧
  ∀ (out : List V) (p : Addr) (G : Hp), EachIs (fun x b => Dp K H x (k b) ∧ R x b) out (bs.mergeSort (dataLe false k)) → H p = none → G p = some (.lst out) → Same H G → Q (.ref p) G
theorem cr_sortD (hu : X.A.units + 64 < cLine) : CallR X (.builtin "sorted") (rSortD X.K) := by
  intro pins s σ H vs us Q I r h
  obtain ⟨a, xs, β, bs, k, R, rfl, hs, he, hk, q⟩ := h
  obtain ⟨its, rv, hl, hz⟩ := I.list hs
  obtain rfl := Vals.ref1 r
  have hz' : its.length ≤ sizeLine := by rw [← rv.length]; exact hz
  have h1 : EachIs (fun u b => ∃ x, RelV x u ∧ (Dp X.K H x (k b) ∧ R x b)) its bs := each_vals rv he
  have h2 : EachIs (fun u b => ∃ as, Reads s.heap u (k b) as) its bs := h1.mono fun u b ⟨x, rx, hx, _⟩ => Dp.reads I (k b) x u hx rx
  have h3 : EachIs (fun u d => ∃ as, Reads (sortingHeap (copyHeap s.heap its) (s.heap.objs.size + 1) its) u d as) its (bs.map k) := by
    have : ∀ {as : List Value} {bs : List β}, EachIs (fun u b => ∃ as, Reads s.heap u (k b) as) as bs → EachIs (fun u d => ∃ as, Reads (sortingHeap (copyHeap s.heap its) (s.heap.objs.size + 1) its) u d as) as (bs.map k) := by
      intro as bs h
      induction h with
      | nil => exact .nil
      | cons h _ ih =>
        obtain ⟨as, r⟩ := h
        exact .cons ⟨as, PyProof.Rows.Reads.keeps (fun b o e => sorting_copy_old e) r⟩ ih
    exact this h2
  have SA : SortsAt X.prog X.w X.A.in1.in1 { s with heap := sortingHeap (copyHeap s.heap its) (s.heap.objs.size + 1) its } (dataKind (sortingHeap (copyHeap s.heap its) (s.heap.objs.size + 1) its) (bs.map k)) its := SortsAt.data (s := { s with heap := sortingHeap (copyHeap s.heap its) (s.heap.objs.size + 1) its }) h3 hk.al hk.so fun d hd => by
    have := hk.dp d hd
    simp only [units_in1]
    omega
  refine sorted_vals hl.isList SA hz' ?_
  have out := sortVals_each (κ := dataKind (sortingHeap (copyHeap s.heap its) (s.heap.objs.size + 1) its) (bs.map k)) (rev := false) (fun b => keyToks (k b)) h1 (each_of_map k (each_keys hk.al h3))
  obtain ⟨ys, ry, hy⟩ := vals_each out
  obtain ⟨ep, he'⟩ := PyProof.Rows.sortedAll_at s.heap its (sortVals (dataKind (sortingHeap (copyHeap s.heap its) (s.heap.objs.size + 1) its) (bs.map k)) false its its).toArray
  have hlen : ys.length ≤ sizeLine := by
    rw [ry.length, sortVals_length false rfl]
    exact hz'
  have hf := I.hok.fresh (Nat.le_succ s.heap.objs.size)
  exact ⟨.ref _, upd H (s.heap.objs.size + 1) (.lst ys), I.laid (t' := s.toks) (fun _ _ => PyProof.Rows.sortedAll_old) (Nat.le_succ _) ⟨hlen, _, ep, ry, he'⟩, rfl, q ys _ _ hy hf upd_same (Rd.same_upd hf)⟩
end
end Rs
namespace Rs
open PySem PySem.Spec PyProof.Rows L2 PySem.W
theorem room2 {k : Nat} {A : Around} (r : Room (k + 1) A) : Room k A.in1.in1 :=
  ⟨r.hd, by have := r.dp; show A.depth + 3 * k + 5 < _; omega, by have := r.un; show A.units + 1 + 1 + 16 * k + 200 < _; omega⟩
theorem each_imp {α β : Type} {R S : α → β → Prop} (h : ∀ a b, R a b → S a b) : ∀ {as : List α} {bs : List β}, EachIs R as bs → EachIs S as bs
  | _, _, .nil => .nil
  | _, _, .cons q t => .cons (h _ _ q) (each_imp h t)
theorem each_reads {X : Cx} {pins : List (Addr × Obj)} {σ : L2.St} {H : Hp} {s : Shared} (I : Inv X pins σ H s) {β : Type} {k : β → PyData} : ∀ {us : List Value} {vs : List V} {bs : List β}, Vals vs us → EachIs (fun x b => Dp X.K H x (k b)) vs bs → EachIs (fun u d => ∃ as, Reads s.heap u d as) us (bs.map k)
  | _, _, _, .nil, .nil => .nil
  | _, _, _, .cons r rr, .cons h t => .cons (Dp.reads I _ _ _ h r) (each_reads I rr t)
mutual
theorem Dp.same {K : PySem.W.Frag} {H H' : Hp} (s : Same H H') : ∀ (d : PyData) (v : V), Dp K H v d → Dp K H' v d
  | .none, _, h => by cases h; exact .non
  | .bool b, _, h => by cases h; exact .bl b
  | .int i, _, h => by cases h; exact .int i
  | .str x, _, h => by cases h; exact .str x
  | .list ds, _, h => by
    cases h with
    | lst hs ha => exact .lst (s.seq hs) (Dp.sameAll s ds _ ha)
  | .tuple ds, _, h => by
    cases h with
    | tup hs ha => exact .tup (Ru.same_tup s hs) (Dp.sameAll s ds _ ha)
  | .dict _, _, h => by cases h
theorem Dp.sameAll {K : PySem.W.Frag} {H H' : Hp} (s : Same H H') : ∀ (ds : List PyData) (vs : List V), DpAll K H vs ds → DpAll K H' vs ds
  | [], _, h => by cases h; exact .nil
  | d :: ds, _, h => by
    cases h with
    | cons h1 h2 => exact .cons (Dp.same s d _ h1) (Dp.sameAll s ds _ h2)
end
theorem each_snocK {β : Type} {R : V → β → Prop} {x : V} {y : β} (hxy : R x y) : ∀ {as : List V} {bs : List β}, EachIs R as bs → EachIs R (as ++ [x]) (bs ++ [y])
  | _, _, .nil => .cons hxy .nil
  | _, _, .cons h t => .cons h (each_snocK hxy t)
def rSortK (f : Addr) (sp : Sp) (K : PySem.W.Frag) : List V → List V → Hp → VK → Prop := fun vs zs H Q => ∃ (a : Addr) (xs : List V) (β : Type) (bs : List β) (k : β → PyData) (R : V → β → Prop), vs = [V.ref a] ∧ zs = [V.ref f] ∧ SqL K H a xs ∧ EachIs R xs bs ∧ Keys (bs.map k) ∧
  (∀ x b H1, Same H H1 → b ∈ bs → R x b → sp [x] H1 (fun v H2 => Same H1 H2 ∧ Dp K H2 v (k b)) (fun _ _ _ => False)) ∧
  ∀ (out : List V) (p : Addr) (G : Hp), EachIs R out (bs.mergeSort (dataLe false k)) → H p = none → G p = some (.lst out) → Same H G → Q (.ref p) G
section
variable {X : Cx} {f : Addr} {fd : FuncData} {ps : List Str} {sp : Sp} {k : Nat}
theorem cr_sortK (F : FnOk X.prog X.w X.K X.mg X.base CX0 k f fd ps sp) (hr : Room (k + 1) X.A) (hb : Binds X.K fd ps []) : CallRK X (.builtin "sorted") [Str.ofString "key"] (rSortK f sp X.K) := by
  intro pins s σ H vs zs us ws Q I r rz h
  obtain ⟨a, xs, β, bs, key, R, rfl, rfl, hs, he, hk, hkey, q⟩ := h
  obtain ⟨its, rv, hl, hz⟩ := I.list hs
  obtain rfl := Vals.ref1 r
  obtain rfl := Vals.ref1 rz
  have hz' : its.length ≤ sizeLine := by rw [← rv.length]; exact hz
  have hbl : its.length = bs.length := by rw [← rv.length, he.length]
  refine sorted_of_sort hl.isList hz' (ksk_s1 _ _) (fun _ => ksk_l1 _ _) fun E' => ?_
  show wpAny _ _ (Builtin.«list.sort» ⟨[.ref (s.heap.objs.size + 1)], [(Str.ofString "key", .ref f)]⟩) _ E' { s with heap := copyHeap s.heap its }
  rw [ksk_t1]
  unfold ksk_tree
  have hcs : (copyHeap s.heap its).objs.size = s.heap.objs.size + 2 := by
    unfold copyHeap
    rw [size_push', Heap.size_update, size_push']
  have ho := copyHeap_at s.heap its
  refine wpAny_bind (listItems_at ho rfl ?_)
  refine wpAny_bind (listUpdate_at ho rfl ?_ (by rw [List.size_toArray]; exact hz') (Nat.zero_le _))
  obtain ⟨e1, ho1⟩ : ∃ e1, ((copyHeap s.heap its).update (s.heap.objs.size + 1) (Obj.mapSeq fun _ => #[])).get? (s.heap.objs.size + 1) = some (seqObj "list" #[] e1) := ⟨_, get?_update_seq ho fun _ => #[]⟩
  refine wpAny_bind (seqEpoch_at ho1 rfl ?_)
  refine wpAny_bind (wpAny_newTuple ?_ (by show its.length ≤ _; exact hz'))
  refine wpAny_bind (wpAny_newList ?_ (Nat.zero_le _))
  refine wpAny_holding ?_
  have hks : (((copyHeap s.heap its).update (s.heap.objs.size + 1) (Obj.mapSeq fun _ => #[])).push (seqObj "tuple" its.toArray 0)).objs.size = s.heap.objs.size + 3 := by
    rw [size_push', Heap.size_update, hcs]
  have hoa : (sortingHeap (copyHeap s.heap its) (s.heap.objs.size + 1) its).get? (s.heap.objs.size + 1) = some (seqObj "list" #[] e1) :=
    Heap.get?_push_of_some _ (Heap.get?_push_of_some _ ho1)
  have hok : (sortingHeap (copyHeap s.heap its) (s.heap.objs.size + 1) its).get? (s.heap.objs.size + 3) = some (seqObj "list" #[] 0) := by
    rw [← hks]
    exact Heap.get?_push_size _ rfl
  show wpAny _ _ (ksk_rest (s.heap.objs.size + 1) (.ref f) false its.toArray e1 (.ref (((copyHeap s.heap its).update (s.heap.objs.size + 1) (Obj.mapSeq fun _ => #[])).push (seqObj "tuple" its.toArray 0)).objs.size)) _ E' { s with heap := sortingHeap (copyHeap s.heap its) (s.heap.objs.size + 1) its }
  rw [hks]
  have hk0 : ∀ b o, s.heap.get? b = some o → (sortingHeap (copyHeap s.heap its) (s.heap.objs.size + 1) its).get? b = some o := fun b o q => sorting_copy_old q
  generalize sortingHeap (copyHeap s.heap its) (s.heap.objs.size + 1) its = g0 at hoa hok hk0
  have old : ∀ b o, s.heap.get? b = some o → b < s.heap.objs.size := fun b o e => Heap.lt_size e
  have nL : @LT.lt Nat _ X.env.locals s.heap.objs.size := I.lt
  have up : ∀ c i : Nat, c < s.heap.objs.size → c ≠ s.heap.objs.size + i := fun c i h => by omega
  have pu : ∀ c i : Nat, c < s.heap.objs.size → s.heap.objs.size + i ≠ c := fun c i h => by omega
  have le0 : ∀ i : Nat, X.s_0.heap.objs.size ≤ s.heap.objs.size + i := fun i => Nat.le_trans I.sz (Nat.le_add_right _ _)
  have n13 : ¬ s.heap.objs.size + 1 = s.heap.objs.size + 3 := by omega
  have n31 : ¬ s.heap.objs.size + 3 = s.heap.objs.size + 1 := by omega
  have nC : ∀ x c, X.env.cells.lookup x = some c → c < s.heap.objs.size := fun x c e => by
    obtain ⟨v, o, ho, _⟩ := I.cell x c e
    exact Heap.lt_size ho
  have nP : ∀ p ∈ X.pn ++ pins, p.1 < s.heap.objs.size := fun p hp => Heap.lt_size (I.pin p hp).1
  have sz := I.sz
  unfold ksk_rest
  refine wpAny_bind (wpAny_rule ?_)
  first
    | rw [List.forIn_toArray]
    | (rw [← Array.forIn_toList]; simp only [List.toList_toArray])
    | rw [← Array.forIn_toList]
  refine wpAny_bind (ksk_fold (fun i s' => ∃ (Hc : Hp) (ks : List V) (kA : Array Value) (e : Nat), Inv X (pins ++ [(s.heap.objs.size + 3, seqObj "list" kA e), (s.heap.objs.size + 1, seqObj "list" #[] e1)]) σ Hc s' ∧ Same H Hc ∧ Vals ks kA.toList ∧
      EachIs (fun x b => Dp X.K Hc x (key b)) ks (bs.take i)) its 0 { s with heap := g0 } ?start ?step ?done)
  case start =>
    have I1 : Inv X pins σ H { s with heap := g0 } := I.kept (t' := s.toks) hk0
    have hf1 := I.hok.fresh (a := s.heap.objs.size + 1) (by omega)
    have hf3 := I.hok.fresh (a := s.heap.objs.size + 3) (by omega)
    refine ⟨H, [], #[], 0, I1.pins_of fun p hp => ?_, Same.refl _, .nil, by rw [List.take_zero]; exact .nil⟩
    rcases List.mem_append.mp hp with hp | hp
    · exact I1.pin p (List.mem_append_right _ hp)
    · rcases List.mem_cons.mp hp with rfl | hp
      · exact ⟨hok, hf3, pu _ 3 nL, I.nofs (by show _ ≤ s.heap.objs.size + 3; omega), fun v => by simp [seqObj]⟩
      · rw [List.mem_singleton.mp hp]
        exact ⟨hoa, hf1, pu _ 1 nL, I.nofs (by show _ ≤ s.heap.objs.size + 1; omega), fun v => by simp [seqObj]⟩
  case step =>
    rintro j u s' hu ⟨Hc, ks, kA, e, I', sm, rk, hke⟩
    simp only [Nat.zero_add] at hke ⊢
    have hj : j < its.length := (List.getElem?_eq_some_iff.mp hu).1
    obtain ⟨b, hbj⟩ : ∃ b, bs[j]? = some b := ⟨_, List.getElem?_eq_getElem (by omega)⟩
    obtain ⟨b', hbj', x, rx, hR⟩ := each_get (each_vals rv he) hu
    obtain rfl : b' = b := by rw [hbj] at hbj'; exact (Option.some.inj hbj').symm
    have hkl : kA.size ≤ its.length := by
      have h1 : ks.length = kA.size := rk.length.trans (by simp)
      have h2 := hke.length
      rw [List.length_take] at h2
      rw [← h1, h2]
      exact Nat.le_trans (Nat.min_le_right _ _) (Nat.le_of_eq hbl.symm)
    have hsp := hkey x b' Hc sm (List.mem_of_getElem? hbj) hR
    have run := F.run X.A.in1.in1 X.stack s' Hc ⟨[u], []⟩ [u] [x] _ _ (room2 hr) I'.env0.in1.in1 (by
      have := hb s' [u] I'.kIn (by have := F.len _ _ _ _ hsp; simpa using this)
      simpa using this) (.cons rx .nil) hsp
    refine wpAny_bind (wpAny_attempt (wpAny_mono (Q := fun v s2 => EP X (pins ++ [(s.heap.objs.size + 3, seqObj "list" kA e), (s.heap.objs.size + 1, seqObj "list" #[] e1)]) σ (fun v H2 => Same Hc H2 ∧ Dp X.K H2 v (key b')) v s2) (E := fun _ _ => False) (wpAny_call (codeAny_mono run fun r s2 hq => ?_)) (fun v s2 he => ?_) fun _ _ hF => hF.elim))
    · cases r with
      | error e => exact hq
      | ok fl =>
        cases fl with
        | ret u => exact I'.after hq
        | next => exact False.elim hq
        | brk => exact False.elim hq
        | cont => exact False.elim hq
    · obtain ⟨kv, H2, I2, rkv, sm2, hd⟩ := he
      have pk := I2.pin (s.heap.objs.size + 3, seqObj "list" kA e) (List.mem_append_right _ (List.mem_append_right _ (.head _)))
      have pa := I2.pin (s.heap.objs.size + 1, seqObj "list" #[] e1) (List.mem_append_right _ (List.mem_append_right _ (.tail _ (.head _))))
      have s1 := Heap.SameBut.update s2.heap (s.heap.objs.size + 3) (Obj.mapSeq (·.push v))
      obtain ⟨c2, hc2⟩ : ∃ c2, (s2.heap.update (s.heap.objs.size + 3) (Obj.mapSeq (·.push v))).get? (s.heap.objs.size + 3) = some (seqObj "list" (kA.push v) c2) := ⟨_, get?_update_seq pk.1 (·.push v)⟩
      have I3 : Inv X pins σ H2 s2 := I2.pins_of fun p hp => I2.pin p (List.mem_append_right _ (List.mem_append_left _ hp))
      have I4 : Inv X pins σ H2 { s2 with heap := s2.heap.update (s.heap.objs.size + 3) (Obj.mapSeq (·.push v)), toks := s2.toks } := I3.turned (it := s.heap.objs.size + 3) (fun b o n q => (s1.2 b n).trans q) pk.2.1 pk.2.2.1 (.inr (le0 3)) (fun x c q => up _ 3 (nC x c q)) fun p hp => up _ 3 (nP p hp)
      try dsimp only
      refine wpAny_bind (listUpdate_at pk.1 rfl ?_ (Nat.le_trans hkl hz') (Nat.le_trans (Nat.le_of_eq (Array.size_push ..)) (Nat.succ_le_succ (Nat.le_trans hkl hz'))))
      refine wpAny_pure ⟨rfl, H2, ks ++ [kv], kA.push v, c2, I4.pins_of fun p hp => ?_, sm.trans sm2, ?_, ?_⟩
      · rcases List.mem_append.mp hp with hp | hp
        · exact I4.pin p (List.mem_append_right _ hp)
        · rcases List.mem_cons.mp hp with rfl | hp
          · exact ⟨hc2, pk.2.1, pk.2.2.1, pk.2.2.2.1, fun v => by simp [seqObj]⟩
          · rw [List.mem_singleton.mp hp]
            exact ⟨(s1.2 _ n13).trans pa.1, pa.2⟩
      · rw [Array.toList_push]
        exact rk.append (.cons rkv .nil)
      · have ek : bs.take (j + 1) = bs.take j ++ [b'] := by rw [List.take_add_one, hbj]; simp
        rw [ek]
        exact each_snocK (R := fun x b => Dp X.K H2 x (key b)) hd (each_imp (R := fun x b => Dp X.K Hc x (key b)) (fun x b q => Dp.same sm2 _ _ q) hke)
  case done =>
    rintro s' ⟨Hc, ks, kA, e, I', sm, rk, hke⟩
    have hke' : EachIs (fun x b => Dp X.K Hc x (key b)) ks bs := by
      have e3 : bs.take (0 + its.length) = bs := List.take_of_length_le (by omega)
      rw [e3] at hke
      exact hke
    have pk := I'.pin (s.heap.objs.size + 3, seqObj "list" kA e) (List.mem_append_right _ (List.mem_append_right _ (.head _)))
    have pa := I'.pin (s.heap.objs.size + 1, seqObj "list" #[] e1) (List.mem_append_right _ (List.mem_append_right _ (.tail _ (.head _))))
    have hsz : kA.size = its.length := by
      have h1 : ks.length = kA.size := rk.length.trans (by simp)
      have h2 := hke'.length
      exact h1.symm.trans (h2.trans hbl.symm)
    have rd := each_reads I' rk hke'
    try dsimp only
    refine wpAny_bind (listItems_at pk.1 rfl ?_)
    have SA : SortsAt X.prog X.w X.A.in1.in1 s' (dataKind s'.heap (bs.map key)) kA.toList := SortsAt.data rd hk.al hk.so fun d hd => by
      have h1 := hk.dp d hd
      have h2 := hr.un
      simp only [units_in1]
      omega
    obtain ⟨m, Fr0⟩ := I'.fr
    have hiB : ∀ i : Nat, X.base.get? (s.heap.objs.size + i) = none := fun i => by
      cases q : X.base.get? (s.heap.objs.size + i) with
      | none => rfl
      | some o =>
        exact absurd (Nat.lt_of_le_of_lt (Nat.le_add_right _ _) (Heap.lt_size (I.bk _ o q))) (Nat.lt_irrefl _)
    let rs := (allNews X.base s'.heap X.env.locals).filter fun p => decide (p.1 ≠ s.heap.objs.size + 3 ∧ p.1 ≠ s.heap.objs.size + 1)
    have hrs : ∀ p ∈ rs, p.1 ≠ s.heap.objs.size + 3 ∧ p.1 ≠ s.heap.objs.size + 1 := fun p hp => of_decide_eq_true (List.mem_filter.mp hp).2
    have N0 : News X.base X.env.locals s'.heap (rs ++ [(s.heap.objs.size + 3, seqObj "list" kA e), (s.heap.objs.size + 1, seqObj "list" #[] e1)]) := fun p hp => by
      rcases List.mem_append.mp hp with hp | hp
      · exact news_all p (List.mem_filter.mp hp).1
      · rcases List.mem_cons.mp hp with rfl | hp
        · exact ⟨pk.1, pk.2.2.1, hiB 3⟩
        · rw [List.mem_singleton.mp hp]
          exact ⟨pa.1, pa.2.2.1, hiB 1⟩
    refine key_end (κ := dataKind s'.heap (bs.map key)) Fr0 N0 n31 (fun p hp => (hrs p hp).1) (fun p hp => (hrs p hp).2) SA hsz hz' fun h' tk ep F' N' => ⟨rfl, ?_⟩
    have kp : ∀ c o, c ≠ X.env.locals → c ≠ s.heap.objs.size + 3 → c ≠ s.heap.objs.size + 1 → s'.heap.get? c = some o → h'.get? c = some o := fun c o n0 n1 n2 q => by
      cases z : X.base.get? c with
      | some u =>
        have := I'.bk c u z
        rw [q] at this
        cases this
        exact F'.keep c _ z
      | none => exact (N' (c, o) (List.mem_cons_of_mem _ (List.mem_filter.mpr ⟨mem_allNews n0 z q, decide_eq_true ⟨n1, n2⟩⟩))).1
    have ha' := (N' _ List.mem_cons_self).1
    have out := sortVals_each (κ := dataKind s'.heap (bs.map key)) (rev := false) (fun b => keyToks (key b)) (each_vals rv he) (each_of_map key (each_keys hk.al rd))
    obtain ⟨ys, ry, hy⟩ := vals_each out
    have hlen : ys.length ≤ sizeLine := by
      rw [ry.length, sortVals_length false (by rw [Array.length_toList]; exact hsz)]
      exact hz'
    have I3 : Inv X pins σ Hc s' := I'.pins_of fun p hp => I'.pin p (List.mem_append_right _ (List.mem_append_left _ hp))
    have fin : Inv X pins σ (upd Hc (s.heap.objs.size + 1) (.lst ys)) { s' with heap := h', gens := s'.gens, drawn := s'.drawn, toks := tk } := by
      have hna : Hc (s.heap.objs.size + 1) = none := pa.2.1
      have hnk : Hc (s.heap.objs.size + 3) = none := pk.2.1
      refine I3.step (ch := [s.heap.objs.size + 3, s.heap.objs.size + 1]) (fun b hb => ?_) (fun b o nl _ hc q _ => kp b o nl (fun z => hc (by simp [z])) (fun z => hc (by simp [z])) q) (fun b o nl _ hc q _ => ⟨o.slots, kp b o nl (fun z => hc (by simp [z])) (fun z => hc (by simp [z])) q⟩)
        (fun b o hc q n => ?_) (fun b o hc q => ?_) (fun b xs q => by rw [upd_ne (ne_of_none q hna)]; exact q) (fun b o u q => by rw [upd_ne (ne_of_none q hna)]; exact q) (fun b ps q => ⟨#[], by rw [upd_ne (ne_of_none q hna), q]; simp⟩) (fun m hm => ?_) (fun b u q => ?_) I3.bare
      · have : b = s.heap.objs.size + 3 ∨ b = s.heap.objs.size + 1 := by simpa using hb
        rcases this with rfl | rfl
        · exact ⟨.inr (le0 3), pu _ 3 nL, fun x c q => up _ 3 (nC x c q), fun p hp => up _ 3 (nP p hp)⟩
        · exact ⟨.inr (le0 1), pu _ 1 nL, fun x c q => up _ 1 (nC x c q), fun p hp => up _ 1 (nP p hp)⟩
      · rw [upd_ne (fun z => hc (by simp [z]))]
        exact n
      · by_cases hbl : b = X.env.locals
        · obtain ⟨o', _, _, ho', _⟩ := F'.ns
          exact ⟨o', by rw [hbl]; exact ho'⟩
        · exact ⟨o, kp b o hbl (fun z => hc (by simp [z])) (fun z => hc (by simp [z])) q⟩
      · rw [nsOne hm Fr0.ns]
        exact F'.ns
      · by_cases hba : b = s.heap.objs.size + 1
        · subst hba
          rw [upd_same] at q
          cases q
          exact ⟨hlen, _, ep, ry, ha'⟩
        · rw [upd_ne hba] at q
          refine (I3.hok b u q).stay (fun c v hc r => kp c v ?_ ?_ ?_ r) (fun c r => by rw [upd_ne (ne_of_none r hna)]; exact r) fun c xs r => by rw [upd_ne (ne_of_none r hna)]; exact r
          · rcases hc with z | z
            · rw [z]; exact ne_of_none q I3.free
            · exact ne_of_none z I3.free
          · rcases hc with z | z
            · rw [z]; exact ne_of_none q hnk
            · exact ne_of_none z hnk
          · rcases hc with z | z
            · rw [z]; exact hba
            · exact ne_of_none z hna
    exact ⟨.ref _, _, fin, rfl, q ys _ _ hy (I.hok.fresh (by omega)) upd_same fun b o z => by rw [upd_ne (ne_of_none (sm b o z) pa.2.1)]; exact sm b o z⟩
end
end Rs

/-! Further readings: zip of tuples, comprehensions that make dicts, locks, sorting. -/
namespace Rw
open PySem PySem.Spec PyProof.Rows L2 Rd
variable {X : Cx} {D : Ends} {σ : L2.St} {H : Hp} {K : PySem.W.Frag}
theorem walk_zipT {a b : Addr} {xs ys : List V} {n : Nat} (hn : n = min xs.length ys.length) : Walk (RZ.ItzT K a b) n (fun H => SqT K H a xs ∧ SqT K H b ys) (YPair (fun i => xs[i]?) (fun i => ys[i]?)) := by
  subst hn
  refine ⟨fun i H hi q => ⟨xs, ys, xs[i]'(by omega), ys[i]'(by omega), q.1, q.2, List.getElem?_eq_getElem _, List.getElem?_eq_getElem _⟩, fun H q => ⟨xs, ys, q.1, q.2, by omega⟩, ?_⟩
  rintro i H v H' _ q ⟨T, x, y, h1, h2, h3, h4, h5⟩
  exact ⟨T, x, y, h1, h2, h3, h4 xs q.1, h5 ys q.2⟩
theorem zipH {ta : TA} {R : It → Hp → Prop} (h : ta σ H fun vs H1 => ∃ a b xs ys, vs = [.ref a, .ref b] ∧ ((SqL K H1 a xs ∧ SqL K H1 b ys ∧ R (Itz K a b) H1) ∨ (SqT K H1 a xs ∧ SqT K H1 b ys ∧ R (RZ.ItzT K a b) H1))) : RZ.iZipA K ta σ H R := h
theorem zipT {a b : Addr} {xs ys : List V} {P Q : Addr → Addr → Prop} (h1 : SqT K H a xs) (h2 : SqT K H b ys) (h : Q a b) : ∃ a' b' xs ys, [V.ref a, V.ref b] = [.ref a', .ref b'] ∧ ((SqL K H a' xs ∧ SqL K H b' ys ∧ P a' b') ∨ (SqT K H a' xs ∧ SqT K H b' ys ∧ Q a' b')) :=
  ⟨a, b, xs, ys, rfl, .inr ⟨h1, h2, h⟩⟩
theorem slT {a : Addr} {xs : List V} {lo hi : Option Int} {Q : VK} (hp : SqT K H a xs) (hw : ¬ (HT.sIx xs.length 0 lo = 0 ∧ HT.sIx xs.length xs.length hi = xs.length)) (h : NewQ (.tup (cutV xs lo hi)) Q H) : rSlT K (.ref a) lo hi H Q := ⟨a, xs, rfl, hp, hw, h⟩
theorem sl1 {a : Addr} {xs : List V} {Q : VK} (hp : SqT K H a xs) (n0 : xs ≠ []) (h : NewQ (.tup xs.tail) Q H) : rSlT K (.ref a) (some 1) none H Q := by
  have l : 1 ≤ xs.length := Nat.one_le_iff_ne_zero.mpr fun e => n0 (List.eq_nil_of_length_eq_zero e)
  have e1 : HT.sIx xs.length 0 (some ((1 : Nat) : Int)) = 1 := by rw [HT.sIx_nat]; omega
  refine slT hp (fun ⟨e, _⟩ => ?_) ?_
  · have e' : HT.sIx xs.length 0 (some ((1 : Nat) : Int)) = 0 := e
    omega
  · have e : cutV xs (some 1) none = xs.tail := by
      show (xs.drop (HT.sIx xs.length 0 (some ((1 : Nat) : Int)))).take (xs.length - HT.sIx xs.length 0 (some ((1 : Nat) : Int))) = xs.tail
      rw [e1, List.drop_one]
      exact List.take_of_length_le (by rw [List.length_tail]; exact Nat.le_refl _)
    rw [e]
    exact h
/-! ### locks -/
def LkE (t : TE) (d : Addr) (u : HO) (σ : L2.St) (H : Hp) (Q : VK) : Prop := ∀ od, t σ (upd H d (.frz od u)) fun v H' => H' d = some (.frz od u) ∧ Q v (upd H' d u)
theorem lockE {t : TE} {d : Addr} {u : HO} {Q : VK} (e : H d = some u) (m : Mut (some u)) (h : ∀ (od : Obj) (G : Hp), G d = some (.frz od u) → (∀ b, b ≠ d → G b = H b) → t σ G fun v H' => H' d = some (.frz od u) ∧ Q v (upd H' d u)) : tLockE t σ H Q :=
  ⟨d, u, e, m, fun od => h od _ upd_same fun b hb => upd_ne hb⟩
theorem itemsH {td : TE} {R : It → Hp → Prop} (h : td σ H fun x H1 => ∃ d o kvs, x = .ref d ∧ H1 d = some (.frz o (.dK kvs)) ∧ R (Iti d o kvs) H1) : iItems td σ H R := h
theorem itemsX {d : Addr} {od : Obj} {kvs : List (Key × V)} {P : Addr → Obj → List (Key × V) → Prop} (e : H d = some (.frz od (.dK kvs))) (h : P d od kvs) : ∃ d' o kvs, V.ref d = .ref d' ∧ H d' = some (.frz o (.dK kvs)) ∧ P d' o kvs := ⟨d, od, kvs, rfl, e, h⟩
theorem keysH {td : TE} {R : It → Hp → Prop} (h : td σ H fun x H1 => ∃ d o, x = .ref d ∧ ((∃ kvs, H1 d = some (.frz o (.dK kvs)) ∧ R (Itk d o kvs) H1) ∨ ∃ kvs, H1 d = some (.frz o (.dT kvs)) ∧ R (Itkt d o kvs) H1)) : iKeys td σ H R := h
theorem keysX {d : Addr} {od : Obj} {kvs : List (Key × V)} {P : Addr → Obj → List (Key × V) → Prop} {P' : Addr → Obj → List (List Key × V) → Prop} (e : H d = some (.frz od (.dK kvs))) (h : P d od kvs) : ∃ d' o, V.ref d = .ref d' ∧ ((∃ kvs, H d' = some (.frz o (.dK kvs)) ∧ P d' o kvs) ∨ ∃ kvs, H d' = some (.frz o (.dT kvs)) ∧ P' d' o kvs) := ⟨d, od, rfl, .inl ⟨kvs, e, h⟩⟩
/-! ### dict comprehensions -/
section
variable {X : Cx}
theorem ps_setDc {i : Nat} {y : Str} {py : Pos} {kx vx tg iter : Expr} {ifs : List Expr} {scope : Scope} {own : List (Str × Nat)} {pos spos : Pos} {wi : TI} {g : TG} {tt : TT} {tk tv : TE} (hc : X.calm = true) (hN : X.N.Nodup) (hy : X.N[i]? = some y) (hyl : X.env.scope.names.lookup y = some .local)
    (hsw : swapsWith (.DictComp kx vx [⟨tg, iter, ifs, 0⟩] scope pos) (some (.Name y py)) spos.line X.env = pure true) (hi : PI X tg iter wi) (ok : BlkOk X.N X.env.scope scope own)
    (hg : ∀ (s : Shared) (H : Hp) (C : Addr) (cl : List (Str × Addr)) (fp : List Addr), PG (X.blk s H scope (compEnvC scope cl C X.env) fp) tg g)
    (ht : ∀ (s : Shared) (H : Hp) (C : Addr) (cl : List (Str × Addr)) (fp : List Addr), PTs (X.blk s H scope (compEnvC scope cl C X.env) fp) ifs tt)
    (hk : ∀ (s : Shared) (H : Hp) (C : Addr) (cl : List (Str × Addr)) (fp : List Addr), PE (X.blk s H scope (compEnvC scope cl C X.env) fp) kx tk)
    (he : ∀ (s : Shared) (H : Hp) (C : Addr) (cl : List (Str × Addr)) (fp : List Addr), PE (X.blk s H scope (compEnvC scope cl C X.env) fp) vx tv) (hs : ∀ x, foldedSetIterable iter X.env x = pure x := by intro _; rfl) :
    PS X (.Assign [.Name y py] (.DictComp kx vx [⟨tg, iter, ifs, 0⟩] scope pos) spos) (tAsg (tDc wi g tt tk tv (own.map (·.2))) (gName i)) := by
  refine ⟨fun pins s σ H D I h => ?_⟩
  have h' : tDc wi g tt tk tv (own.map (·.2)) σ H (fun x H1 => gName i x σ H1 D.nx) := h
  rw [exec_Assign_Name_used _ _ _ _ hsw]
  refine wpAny_bind (wpAny_standAt (wpAny_bind ?_))
  show wpAny _ _ (comprehension (.DictComp kx vx [⟨tg, iter, ifs, 0⟩] scope pos) scope X.env (firstIterPos [⟨tg, iter, ifs, 0⟩] pos) newDict false (eval iter X.env) (some (assign (.Name y py) X.env)) >>= fun _ => pure ()) _ _ s
  refine wpAny_bind (thn (dc_core (use := some (assign (.Name y py) X.env)) (Qf := fun _ s' => SP X pins D .next s') hc hN I hi ok hg ht hk he hs h' fun L C s1 m H1 I1 q hn f => ?_) fun _ s2 hq => wpAny_pure (wpAny_pure hq))
  refine (wpAny_assign_Name (store_ok2 (v := V.ref L) I1 hN hy (.inl hyl) rfl (fun s2 I2 w => ?_) (.inr hyl)) : wpAny _ _ (assign (.Name y py) X.env (.ref L)) _ _ _)
  obtain ⟨b, sb, hb⟩ := w
  obtain ⟨f0, f1, f2, f3, f4, f5⟩ := f
  have ne : C ≠ b := hb.elim (fun z => z ▸ f1) fun z e => f4 y b z e.symm
  exact ⟨m, hn.sameBut sb ne, fun h3 sb3 => ⟨_, H1, I2.turned (t' := s2.toks) (fun c o n e => (sb3.2 c n).trans e) f0 f1 f3 f4 f5, q⟩⟩
theorem sw_dc {kx vx : Expr} {gs : List Comprehension} {scope : Scope} {pos py : Pos} {y : Str} {l : Nat} {env : Env} (hk : env.scope.kind = .function) (hy : env.scope.names.lookup y = some .local) (hl : (py.line == pos.line) = true)
    (ha : (scope.names.any fun (n, k) => n == y && (k == .local || k == .cell)) = false) : swapsWith (.DictComp kx vx gs scope pos) (some (.Name y py)) l env = pure true := by
  have k1 : env.kindOf y = some .local := hy
  have k2 : env.blockKind = .function := by unfold Env.blockKind; rw [hk]; rfl
  unfold swapsWith
  simp only [k2, k1, ha, Expr.pos, hl]
  rfl
end
def Dc (J : It) (g : TG) (tt : TT) (tk tv : TE) (vs : List Nat) (σ : L2.St) (H1 : Hp) (Q : VK) : Prop := ∀ D, H1 D = none → ∃ W : Nat → Nat → Hp → Prop, (∃ m, W 0 m (upd H1 D (.dK []))) ∧ ∀ i m H, W i m H →
  (J.stop i H ∧ Q (.ref D) H) ∨ (J.go i H ∧ ∃ Nx : Hp → Prop, (∀ H', Nx H' → ∃ m', m' < m ∧ W (i + 1) m' H') ∧ ∀ x H', J.yld i H x H' → g x (wipe σ vs) H' fun σ2 H2 => wipe σ2 vs = wipe σ vs ∧ tt σ2 H2 fun b H3 =>
    if b = true then tk σ2 H3 fun y H4 => tv σ2 H4 fun z H5 => ∃ kvs k, y = kV k ∧ H5 D = some (.dK kvs) ∧ kvs.length < sizeLine ∧ Nx (upd H5 D (.dK (putK kvs k z))) else Nx H3)
theorem dc {wi : TI} {g : TG} {tt : TT} {tk tv : TE} {vs : List Nat} {Q : VK} (h : wi σ H fun J H1 => Dc J g tt tk tv vs σ H1 Q) : tDc wi g tt tk tv vs σ H Q := h
def DcPut (D : Addr) (H1 : Hp) (R : Nat → List (Key × V) → Hp → Prop) (i : Nat) (y z : V) (H5 : Hp) : Prop := ∃ kvs k, y = kV k ∧ H5 D = some (.dK kvs) ∧ kvs.length < sizeLine ∧ ∃ kvs', upd H5 D (.dK (putK kvs k z)) D = some (.dK kvs') ∧ Same H1 (upd H5 D (.dK (putK kvs k z))) ∧ R (i + 1) kvs' (upd H5 D (.dK (putK kvs k z)))
def DcNo (D : Addr) (H1 : Hp) (R : Nat → List (Key × V) → Hp → Prop) (i : Nat) (H3 : Hp) : Prop := ∃ kvs', H3 D = some (.dK kvs') ∧ Same H1 H3 ∧ R (i + 1) kvs' H3
theorem dcPut {D : Addr} {H1 H5 : Hp} {R : Nat → List (Key × V) → Hp → Prop} {i : Nat} {k : Key} {z : V} {kvs : List (Key × V)} (hD : H5 D = some (.dK kvs)) (nD : H1 D = none) (s : Same H1 H5) (hz : kvs.length < sizeLine) (r : ∀ G : Hp, G D = some (.dK (putK kvs k z)) → (∀ b, b ≠ D → G b = H5 b) → R (i + 1) (putK kvs k z) G) : DcPut D H1 R i (kV k) z H5 :=
  ⟨kvs, k, rfl, hD, hz, _, upd_same, fun b o e => by rw [upd_ne (ne_of_none e nD)]; exact s b o e, r _ upd_same fun b hb => upd_ne hb⟩
theorem dcS {J : It} {n : Nat} {G : Hp → Prop} {Y : Nat → Hp → V → Hp → Prop} (w : Walk J n G Y) {g : TG} {tt : TT} {tk tv : TE} {vs : List Nat} {H1 : Hp} {Q : VK} (hG : ∀ H, Same H1 H → G H) (R : Addr → Nat → List (Key × V) → Hp → Prop)
    (r0 : ∀ (D : Addr) (G : Hp), H1 D = none → G D = some (.dK []) → Same H1 G → R D 0 [] G)
    (hs : ∀ (D : Addr) i x H H' kvs, H1 D = none → i < n → H D = some (.dK kvs) → Same H1 H → R D i kvs H → Y i H x H' → g x (wipe σ vs) H' fun σ2 H2 => wipe σ2 vs = wipe σ vs ∧ tt σ2 H2 fun b H3 =>
      if b = true then tk σ2 H3 fun y H4 => tv σ2 H4 fun z H5 => DcPut D H1 (R D) i y z H5 else DcNo D H1 (R D) i H3)
    (hd : ∀ (D : Addr) kvs H, H1 D = none → H D = some (.dK kvs) → Same H1 H → R D n kvs H → Q (.ref D) H) : Dc J g tt tk tv vs σ H1 Q := fun D nD => by
  refine ⟨fun i m H => m = n - i ∧ i ≤ n ∧ ∃ kvs, H D = some (.dK kvs) ∧ Same H1 H ∧ R D i kvs H, ⟨n, by simp, Nat.zero_le _, [], upd_same, same_upd nD, r0 D _ nD upd_same (same_upd nD)⟩, ?_⟩
  rintro i m H ⟨rfl, hi, kvs, h1, h2, h3⟩
  have q := hG H h2
  by_cases hlt : i < n
  · refine .inr ⟨w.goes i H hlt q, fun H => ∃ kvs, H D = some (.dK kvs) ∧ Same H1 H ∧ R D (i + 1) kvs H, fun H' p' => ⟨n - (i + 1), by omega, rfl, hlt, p'⟩, fun x H' y => ?_⟩
    exact hs D i x H H' kvs nD hlt h1 h2 h3 (w.yields i H x H' hlt q y)
  · have e : i = n := by omega
    subst e
    exact .inl ⟨w.stops H q, hd D kvs H nD h1 h2 h3⟩
/-! ### sorted -/
theorem sortD {β : Type} {a : Addr} {xs : List V} {bs : List β} {Q : VK} (k : β → PyData) (R : V → β → Prop) (hs : SqL K H a xs) (he : PySem.W.EachIs (fun x b => Dp K H x (k b) ∧ R x b) xs bs) (hk : Rs.Keys (bs.map k))
    (h : ∀ (out : List V) (p : Addr) (G : Hp), PySem.W.EachIs (fun x b => Dp K H x (k b) ∧ R x b) out (bs.mergeSort (PySem.W.dataLe false k)) → H p = none → G p = some (.lst out) → Same H G → Q (.ref p) G) : Rs.rSortD K [.ref a] H Q :=
  ⟨a, xs, β, bs, k, R, rfl, hs, he, hk, h⟩
def SortK (f : Addr) (sp : Sp) (K : PySem.W.Frag) (vs zs : List V) (H : Hp) (Q : VK) : Prop := Rs.rSortK f sp K vs zs H Q
theorem ckw {r : List V → List V → Hp → VK → Prop} {t tk : TA} {Q : VK} (h : t σ H fun vs H1 => tk σ H1 fun zs H2 => r vs zs H2 Q) : tCKw r t tk σ H Q := h
theorem sortK {β : Type} {f : Addr} {sp : Sp} {a : Addr} {xs : List V} {bs : List β} {Q : VK} (k : β → PyData) (R : V → β → Prop) (hs : SqL K H a xs) (he : PySem.W.EachIs R xs bs) (hk : Rs.Keys (bs.map k))
    (hf : ∀ x b H1, Same H H1 → b ∈ bs → R x b → sp [x] H1 (fun v H2 => Same H1 H2 ∧ Dp K H2 v (k b)) (fun _ _ _ => False))
    (h : ∀ (out : List V) (p : Addr) (G : Hp), PySem.W.EachIs R out (bs.mergeSort (PySem.W.dataLe false k)) → H p = none → G p = some (.lst out) → Same H G → Q (.ref p) G) : Rs.rSortK f sp K [.ref a] [.ref f] H Q :=
  ⟨a, xs, β, bs, k, R, rfl, rfl, hs, he, hk, hf, h⟩
def DClr : V → List V → Hp → VK → Prop := rDClear
theorem clr {a : Addr} {kvs : List (Key × V)} {Q : VK} (e : H a = some (.dK kvs)) (h : ∀ G : Hp, G a = some (.dK []) → (∀ b, b ≠ a → G b = H b) → Q .non G) : rDClear (.ref a) [] H Q := ⟨a, kvs, rfl, rfl, e, h _ upd_same fun b hb => upd_ne hb⟩
end Rw
namespace Rd
open PySem PySem.Spec PyProof.Rows L2
variable {σ : L2.St} {H : Hp} {K : PySem.W.Frag}
theorem notT {ta : TE} {Q : VK} (h : ta σ H fun x H1 => ∃ k, TruV K x H1 k ∧ Q (.bl (!k)) H1) : tNotT K ta σ H Q := h
theorem yes {c A B : Prop} {i : Decidable c} (h : c) (a : A) : @ite Prop c i A B := by rw [if_pos h]; exact a
theorem no {c A B : Prop} {i : Decidable c} (h : ¬ c) (a : B) : @ite Prop c i A B := by rw [if_neg h]; exact a
theorem ifX {x : V} {i : Decidable (x = V.non)} {A B : Prop} (n : x ≠ .non) (h : B) : @ite Prop (x = V.non) i A B := by rw [if_neg n]; exact h
theorem ifR {a : Addr} {i : Decidable (V.ref a = V.non)} {A B : Prop} (h : B) : @ite Prop (V.ref a = V.non) i A B := ifX (by intro e; cases e) h
theorem ifI {a : Int} {i : Decidable (V.int a = V.non)} {A B : Prop} (h : B) : @ite Prop (V.int a = V.non) i A B := ifX (by intro e; cases e) h
theorem ifT {a : Str} {i : Decidable (V.str a = V.non)} {A B : Prop} (h : B) : @ite Prop (V.str a = V.non) i A B := ifX (by intro e; cases e) h
theorem ifN {i : Decidable (V.non = V.non)} {A B : Prop} (h : A) : @ite Prop (V.non = V.non) i A B := by rw [if_pos rfl]; exact h
theorem orTH {ta tb : TE} {Q : VK} (h : ta σ H fun x H1 => ∃ k, TruV K x H1 k ∧ if k = true then Q x H1 else tb σ H1 Q) : tOrT K ta tb σ H Q := h
end Rd

/-! Things of any kind, one level deep; exceptions of the program: made, raised, caught, asked. -/
namespace Rx
open PySem PySem.Spec PyProof.Rows L2 Rd
variable {X : Cx} {D : Ends} {σ : L2.St} {H H' : Hp} {K : PySem.W.Frag}
/-! ### kinds -/
inductive Kd where
  | non | bl (b : Bool) | int (i : Int) | str (z : Str) | lst (xs : List V) | tup (xs : List V) | dct
def Kd.ty : Kd → String
  | .non => "NoneType" | .bl _ => "bool" | .int _ => "int" | .str _ => "str" | .lst _ => "list" | .tup _ => "tuple" | .dct => "dict"
/-- what stands at a value -/
inductive Is (H : Hp) : V → Kd → Prop where
  | non : Is H .non .non
  | bl (b : Bool) : Is H (.bl b) (.bl b)
  | int (i : Int) : Is H (.int i) (.int i)
  | str {z : Str} (l : z.length ≤ 1000000) : Is H (.str z) (.str z)
  | lst {a : Addr} {xs : List V} (h : H a = some (.lst xs)) (l : xs.length ≤ 1000000) : Is H (.ref a) (.lst xs)
  | tup {a : Addr} {xs : List V} (h : H a = some (.tup xs)) (l : xs.length ≤ 1000000) : Is H (.ref a) (.tup xs)
  | dct {a : Addr} {kvs : List (Key × V)} (h : H a = some (.dK kvs)) : Is H (.ref a) .dct
theorem Is.same {x : V} {k : Kd} (s : Same H H') (h : Is H x k) : Is H' x k := by
  cases h with
  | non => exact .non
  | bl b => exact .bl b
  | int i => exact .int i
  | str l => exact .str l
  | lst h l => exact .lst (s _ _ h) l
  | tup h l => exact .tup (s _ _ h) l
  | dct h => exact .dct (s _ _ h)
theorem Is.inj {x : V} {k k' : Kd} (h : Is H x k) (h' : Is H x k') : k = k' := by
  cases h <;> cases h' <;> first | rfl | (rename_i a b c d; first | (rw [a] at c; cases c; rfl) | (rw [a] at c; cases c) | (rw [a] at d; cases d) | skip) <;> simp_all
theorem Is.ty {x : V} {k : Kd} (h : Is H x k) : TyX K H x (.type k.ty) := by
  cases h with
  | non => exact .base .non
  | bl b => exact .base (.bl b)
  | int i => exact .base (.int i)
  | str l => exact .base (.str _)
  | lst h l => exact .base (.lst h)
  | tup h l => exact .base (.tup h)
  | dct h => exact .base (.dK h)
def Kd.isInt : Kd → Bool | .int _ => true | .bl _ => true | _ => false
def Kd.isBl : Kd → Bool | .bl _ => true | _ => false
def Kd.isStr : Kd → Bool | .str _ => true | _ => false
def Kd.isLst : Kd → Bool | .lst _ => true | _ => false
def Kd.isTup : Kd → Bool | .tup _ => true | _ => false
def Kd.isDct : Kd → Bool | .dct => true | _ => false
def Kd.isSeq : Kd → Bool | .lst _ => true | .tup _ => true | _ => false
/-- an integer and no flag -/
def Kd.isNum : Kd → Bool | .int _ => true | _ => false
theorem kdInt : ∀ k : Kd, kitB k.ty "int" = some k.isInt
  | .non => (by decide +kernel : kitB "NoneType" "int" = some false)
  | .bl _ => (by decide +kernel : kitB "bool" "int" = some true)
  | .int _ => (by decide +kernel : kitB "int" "int" = some true)
  | .str _ => (by decide +kernel : kitB "str" "int" = some false)
  | .lst _ => (by decide +kernel : kitB "list" "int" = some false)
  | .tup _ => (by decide +kernel : kitB "tuple" "int" = some false)
  | .dct => (by decide +kernel : kitB "dict" "int" = some false)
theorem kdBl : ∀ k : Kd, kitB k.ty "bool" = some k.isBl
  | .non => (by decide +kernel : kitB "NoneType" "bool" = some false)
  | .bl _ => (by decide +kernel : kitB "bool" "bool" = some true)
  | .int _ => (by decide +kernel : kitB "int" "bool" = some false)
  | .str _ => (by decide +kernel : kitB "str" "bool" = some false)
  | .lst _ => (by decide +kernel : kitB "list" "bool" = some false)
  | .tup _ => (by decide +kernel : kitB "tuple" "bool" = some false)
  | .dct => (by decide +kernel : kitB "dict" "bool" = some false)
theorem kdStr : ∀ k : Kd, kitB k.ty "str" = some k.isStr
  | .non => (by decide +kernel : kitB "NoneType" "str" = some false)
  | .bl _ => (by decide +kernel : kitB "bool" "str" = some false)
  | .int _ => (by decide +kernel : kitB "int" "str" = some false)
  | .str _ => (by decide +kernel : kitB "str" "str" = some true)
  | .lst _ => (by decide +kernel : kitB "list" "str" = some false)
  | .tup _ => (by decide +kernel : kitB "tuple" "str" = some false)
  | .dct => (by decide +kernel : kitB "dict" "str" = some false)
theorem kdLst : ∀ k : Kd, kitB k.ty "list" = some k.isLst
  | .non => (by decide +kernel : kitB "NoneType" "list" = some false)
  | .bl _ => (by decide +kernel : kitB "bool" "list" = some false)
  | .int _ => (by decide +kernel : kitB "int" "list" = some false)
  | .str _ => (by decide +kernel : kitB "str" "list" = some false)
  | .lst _ => (by decide +kernel : kitB "list" "list" = some true)
  | .tup _ => (by decide +kernel : kitB "tuple" "list" = some false)
  | .dct => (by decide +kernel : kitB "dict" "list" = some false)
theorem kdTup : ∀ k : Kd, kitB k.ty "tuple" = some k.isTup
  | .non => (by decide +kernel : kitB "NoneType" "tuple" = some false)
  | .bl _ => (by decide +kernel : kitB "bool" "tuple" = some false)
  | .int _ => (by decide +kernel : kitB "int" "tuple" = some false)
  | .str _ => (by decide +kernel : kitB "str" "tuple" = some false)
  | .lst _ => (by decide +kernel : kitB "list" "tuple" = some false)
  | .tup _ => (by decide +kernel : kitB "tuple" "tuple" = some true)
  | .dct => (by decide +kernel : kitB "dict" "tuple" = some false)
theorem kdDct : ∀ k : Kd, kitB k.ty "dict" = some k.isDct
  | .non => (by decide +kernel : kitB "NoneType" "dict" = some false)
  | .bl _ => (by decide +kernel : kitB "bool" "dict" = some false)
  | .int _ => (by decide +kernel : kitB "int" "dict" = some false)
  | .str _ => (by decide +kernel : kitB "str" "dict" = some false)
  | .lst _ => (by decide +kernel : kitB "list" "dict" = some false)
  | .tup _ => (by decide +kernel : kitB "tuple" "dict" = some false)
  | .dct => (by decide +kernel : kitB "dict" "dict" = some true)
theorem askInt {x : V} {k : Kd} {Q : VK} (h : Is H x k) (q : Q (.bl k.isInt) H) : rIsi K [x, .ty "int"] H Q := Rd.isi h.ty (kdInt k) q
theorem askBl {x : V} {k : Kd} {Q : VK} (h : Is H x k) (q : Q (.bl k.isBl) H) : rIsi K [x, .ty "bool"] H Q := Rd.isi h.ty (kdBl k) q
theorem askStr {x : V} {k : Kd} {Q : VK} (h : Is H x k) (q : Q (.bl k.isStr) H) : rIsi K [x, .ty "str"] H Q := Rd.isi h.ty (kdStr k) q
theorem askLst {x : V} {k : Kd} {Q : VK} (h : Is H x k) (q : Q (.bl k.isLst) H) : rIsi K [x, .ty "list"] H Q := Rd.isi h.ty (kdLst k) q
theorem askTup {x : V} {k : Kd} {Q : VK} (h : Is H x k) (q : Q (.bl k.isTup) H) : rIsi K [x, .ty "tuple"] H Q := Rd.isi h.ty (kdTup k) q
theorem askDct {x : V} {k : Kd} {Q : VK} (h : Is H x k) (q : Q (.bl k.isDct) H) : rIsi K [x, .ty "dict"] H Q := Rd.isi h.ty (kdDct k) q
/-- (list, tuple) was just laid at tp -/
theorem askSeq {x : V} {k : Kd} {tp : Addr} {Q : VK} (ht : H tp = some (.tup [.ty "list", .ty "tuple"])) (h : Is H x k) (q : Q (.bl k.isSeq) H) : rIsiT K [x, .ref tp] H Q := by
  refine ⟨_, tp, _, _, [.type "list", .type "tuple"], k.isSeq, rfl, ht, .cons (.ty _) (.cons (.ty _) .nil), h.ty, ?_, q⟩
  have e1 := kdLst k
  have e2 := kdTup k
  refine kitAny_cons (kit_ty e1) (fun z1 => kitAny_cons (kit_ty e2) (fun z2 => ?_) fun z => ?_) fun z => ?_
  · rw [kitAny_nil]
    cases k <;> first | rfl | (cases z1; done) | (cases z2; done)
  · cases k <;> first | rfl | cases z
  · cases k <;> first | rfl | cases z
/-! ### equal without a look inside -/
/-- the one is the other, or both are equal data -/
def EqI (K : PySem.W.Frag) (H : Hp) (x y : V) : Prop := (x = y ∧ flatB x = true) ∨ (∃ a, x = .ref a ∧ y = .ref a) ∨ ∃ d e, Dp K H x d ∧ Dp K H y e ∧ SeqAt.shaped d = true ∧ SeqAt.shaped e = true ∧ PyData.eqv d e = true
theorem eqI_run {pins : List (Addr × Obj)} {s : Shared} (I : Inv X pins σ H s) {A : Around} (hu : A.units + 64 < cLine) {x y : V} {v u : Value} (h : EqI X.K H x y) (rx : RelV x v) (ry : RelV y u) : SeqAt.EqAt A s v u true := by
  rcases h with ⟨rfl, f⟩ | ⟨a, rfl, rfl⟩ | ⟨d, e, hd, he, sd, se, q⟩
  · exact eqAt_same rx ry f
  · cases (show v = Value.ref a from rx)
    cases (show u = Value.ref a from ry)
    exact SeqAt.EqAt.same _
  · obtain ⟨as, r1⟩ := Dp.reads I d x v hd rx
    obtain ⟨bs, r2⟩ := Dp.reads I e y u he ry
    have z := SeqAt.eqAt_reads d e A s v u as bs r1 r2 (SeqAt.canLay_of_shaped sd) (SeqAt.canLay_of_shaped se) (SeqAt.room_of_shaped sd hu)
    rw [q] at z
    exact z
theorem eqIs_run {pins : List (Addr × Obj)} {s : Shared} (I : Inv X pins σ H s) {A : Around} (hu : A.units + 64 < cLine) {xs ys : List V} (hp : Paired (EqI X.K H) xs ys) :
    ∀ {us ws : List Value}, Vals xs us → Vals ys ws → ∀ j (h1 : j < us.length) (h2 : j < ws.length), SeqAt.EqAt A s us[j] ws[j] true := by
  induction hp with
  | nil =>
    intro us ws r1 r2 j h1 h2
    cases r1
    exact absurd h1 (Nat.not_lt_zero j)
  | cons h _ k =>
    intro us ws r1 r2 j h1 h2
    cases r1 with
    | cons a1 b1 =>
      cases r2 with
      | cons a2 b2 =>
        cases j with
        | zero => exact eqI_run I hu h a1 a2
        | succ j => exact k b1 b2 j (Nat.lt_of_succ_lt_succ h1) (Nat.lt_of_succ_lt_succ h2)
/-- two tuples whose items are equal -/
def TupEq (K : PySem.W.Frag) (H : Hp) (x y : V) : Prop := ∃ a b xs ys, x = .ref a ∧ y = .ref b ∧ SqT K H a xs ∧ SqT K H b ys ∧ Paired (EqI K H) xs ys
def rEqX (K : PySem.W.Frag) : R2 := fun x y H Q => TupEq K H x y ∧ Q (.bl true) H
def rNeX (K : PySem.W.Frag) : R2 := fun x y H Q => TupEq K H x y ∧ Q (.bl false) H
theorem op_neX (hu : X.A.units + 66 < cLine) : OpR X (compareOp .NotEq) (rNeX X.K) := by
  intro pins s σ H x y v u Q I rx ry h
  obtain ⟨⟨a, b, xs, ys, rfl, rfl, ha, hb, hp⟩, q⟩ := h
  cases (show v = Value.ref a from rx)
  cases (show u = Value.ref b from ry)
  obtain ⟨us, r1, p1⟩ := I.tuple ha
  obtain ⟨ws, r2, p2⟩ := I.tuple hb
  have hsz : us.toArray.size = ws.toArray.size := by
    rw [List.size_toArray, List.size_toArray, ← r1.length, ← r2.length]
    exact Paired.length hp
  refine SeqAt.RcNeAt.tuples (e := fun _ => true) p1.1 p2.1 (by omega) (fun j h1 h2 => ?_) X.prog X.w _ _ ?_
  · have k := eqIs_run I (A := X.A.in1) (by show X.A.units + 1 + 64 < cLine; omega) hp r1 r2 j (by simpa using h1) (by simpa using h2)
    simpa using k
  · rw [show ((List.range (min us.toArray.size ws.toArray.size)).all fun _ => true) = true from List.all_eq_true.mpr fun _ _ => rfl, hsz]
    exact ⟨.bl false, H, I, by simp [L2.RelV], q⟩
theorem op_eqX (hu : X.A.units + 66 < cLine) : OpR X (compareOp .Eq) (rEqX X.K) := by
  intro pins s σ H x y v u Q I rx ry h
  obtain ⟨⟨a, b, xs, ys, rfl, rfl, ha, hb, hp⟩, q⟩ := h
  cases (show v = Value.ref a from rx)
  cases (show u = Value.ref b from ry)
  obtain ⟨us, r1, p1⟩ := I.tuple ha
  obtain ⟨ws, r2, p2⟩ := I.tuple hb
  have hsz : us.toArray.size = ws.toArray.size := by
    rw [List.size_toArray, List.size_toArray, ← r1.length, ← r2.length]
    exact Paired.length hp
  refine SeqAt.RcAt.tuples (e := fun _ => true) p1.1 p2.1 (by omega) (fun j h1 h2 => ?_) X.prog X.w _ _ ?_
  · have k := eqIs_run I (A := X.A.in1) (by show X.A.units + 1 + 64 < cLine; omega) hp r1 r2 j (by simpa using h1) (by simpa using h2)
    simpa using k
  · rw [show ((List.range (min us.toArray.size ws.toArray.size)).all fun _ => true) = true from List.all_eq_true.mpr fun _ _ => rfl, hsz]
    exact ⟨.bl true, H, I, by simp [L2.RelV], q⟩
end Rx
namespace Rx
open PySem PySem.Spec PyProof.Rows L2 Rd
/-! ### classes of exceptions, their __init__(self, value) at fI -/
structure ExcF (K : PySem.W.Frag) (fI C : Addr) : Prop where
  ox : OexC K C
  is : ExcC K C
  iC : PySem.W.findIn K (.ref C) "__init__" = some (some (.ref fI))
  nv : PySem.W.findIn K (.ref C) "value" = some none
  cl : PySem.W.isClsIn K C = true
  self : PySem.W.subIn K (.ref C) (.ref C) = some true
section
variable {K : PySem.W.Frag} {fI C E : Addr} {b : Bool}
theorem kitC (FE : ExcF K fI E) (h : PySem.W.subIn K (.ref C) (.ref E) = some b) : PySem.W.kitCls K (.ref C) (.ref E) = some b := by
  have h2 : (PySem.W.clsIn K E).isSome = true := FE.cl
  have e2 : ((PySem.W.clsIn K E).isSome && PySem.W.typeIn K (.ref E) == some (.type "type")) = true := by
    rw [h2, FE.ox.tyC] <;> rfl
  show (if ((PySem.W.clsIn K E).isSome && PySem.W.typeIn K (.ref E) == some (.type "type")) = true then PySem.W.subIn K (.ref C) (.ref E) else none) = some b
  rw [if_pos e2]
  exact h
theorem kit (FC : ExcF K fI C) (FE : ExcF K fI E) (h : PySem.W.subIn K (.ref C) (.ref E) = some b) : PySem.W.kitOne K (.ref C) (.ref E) = some b := by
  unfold PySem.W.kitOne
  by_cases c : C = E
  · subst c
    rw [FC.self] at h
    cases h
    rw [if_pos (beq_self_eq_true _)]
  · rw [if_neg (fun z => c (by simpa using z))]
    exact kitC FE h
theorem exm (FE : ExcF K fI E) (h : PySem.W.subIn K (.ref C) (.ref E) = some b) : PySem.W.exmOne K (.ref C) (.ref E) = some b := by
  have e1 : (PySem.W.subIn K (.ref E) (.type "BaseException") == some true) = true := by rw [FE.is.hs] <;> rfl
  show (if (PySem.W.subIn K (.ref E) (.type "BaseException") == some true) = true then PySem.W.kitCls K (.ref C) (.ref E) else none) = some b
  rw [if_pos e1]
  exact kitC FE h
end
/-! ### monotone readings -/
def tMono (te : TE) : TE := fun σ H Q => ∃ Q0 : VK, te σ H Q0 ∧ ∀ v H1, Q0 v H1 → Q v H1
theorem pe_mono {X : Cx} {e : Expr} {te : TE} (he : PE X e te) : PE X e (tMono te) := ⟨fun pins s σ H Q I h => by
  obtain ⟨Q0, h, imp⟩ := h
  exact thn (he.run pins s σ H Q0 I h) fun u s1 ⟨v, H1, I1, r1, q⟩ => ⟨v, H1, I1, r1, imp v H1 q⟩⟩
/-! ### raise C(e) -/
/-- self.value = value -/
def spWe (K : PySem.W.Frag) : Sp := fun vs H Q _ => ∃ (a C : Addr) (v : V), vs = [.ref a, v] ∧ OexC K C ∧ PySem.W.findIn K (.ref C) "value" = some none ∧ H a = some (exo a C none) ∧
  ∀ dx, H dx = none → dx ≠ a → Q .non (upd (upd H dx (exd dx [("value", v)])) a (exo a C (some dx)))
/-- behind: the exception's dict d is new and holds v -/
def RaiseQ (C : Addr) (v : V) (H1 : Hp) (Q : XK) : Prop := ∀ (d : Addr) (H2 : Hp), H1 d = none → H2 d = some (.xd [("value", v)]) → (∀ b, b ≠ d → H2 b = H1 b) → Q (.ref C) (some d) H2
def tRaise (C : Addr) (W : WX) (te : TE) : TS := fun _ σ H => te σ H fun v H1 => RaiseQ C v H1 fun cls d H2 => W cls d σ H2
theorem raiseH {C : Addr} {W : WX} {te : TE} {D : Ends} {σ : L2.St} {H : Hp} (h : te σ H fun v H1 => RaiseQ C v H1 fun cls d H2 => W cls d σ H2) : tRaise C W te D σ H := h
/-- what a raised exception leaves: all as it was, and its value in its dict -/
def Raised (C : Addr) (v : V) (H : Hp) (E : XK) : Prop := ∀ (d : Addr) (H2 : Hp), H d = none → H2 d = some (.xd [("value", v)]) → Same H H2 → E (.ref C) (some d) H2
theorem Raised.now {C : Addr} {v : V} {H H1 : Hp} {E : XK} (r : Raised C v H E) (s : Same H H1) : RaiseQ C v H1 E := fun d H2 n e k =>
  r d H2 (s.free n) e fun b o q => (k b (ne_of_none (s _ _ q) n)).trans (s _ _ q)
theorem mk_reads {K : PySem.W.Frag} {fI C : Addr} {te : TE} {σ : L2.St} {H : Hp} {Q : XK} (F : ExcF K fI C) (h : te σ H fun v H1 => RaiseQ C v H1 Q) : tMkO C (spWe K) [] (tCons (tMono te) tNil) σ H Q := by
  refine ⟨_, h, fun v H1 hv => ?_⟩
  refine ⟨(by decide : 1 ≤ 1000), fun a na => ⟨a, C, v, rfl, F.ox, F.nv, upd_same, fun dx ndx ne => ⟨rfl, dx, [("value", v)], upd_same, ?_, ?_, ?_⟩⟩⟩
  · rw [upd_ne ne, upd_same]
  · rw [upd_ne ne] at ndx
    exact ndx
  · rw [upd_ne ne] at ndx
    refine hv dx _ ndx upd_same fun b hb => ?_
    rw [upd_ne hb]
    by_cases c : b = a
    · rw [c, del_same, na]
    · rw [del_ne c, upd_ne c, upd_ne hb, upd_ne c]
section
variable {X : Cx} {x : Str} {e : Expr} {te : TE} {p pos pos2 : Pos} {C fI : Addr} {k : Nat} {fd : FuncData} {W : WX}
theorem ps_raise1 (hc : X.calm = true) (F : ExcF X.K fI C) (tI : PySem.W.typeIn X.K (.ref fI) = some (.type "function")) (F1 : FnOk X.prog X.w X.K X.mg X.base CX0 k fI fd ["self", "value"] (spWe X.K)) (hr : Room (k + 1) X.A) (hb : Binds X.K fd ["self", "value"] [])
    (hg : Gl X x) (hm : X.mg x = some (.ref C)) (tk : Takes X W) (he : PE X e te) (hdb : (x == ("__debug__" : Str)) = false := by decide) (hs : starEach (e :: []) X.env = (false, eval e X.env) :: starEach [] X.env := by rfl) (hpl : (backTo pos (starEach [] X.env)).any (·.1) = false := by rfl) :
    PS X (.Raise (some (.Call (.Name x p) [e] [] pos)) none pos2) (tRaise C W te) :=
  have z := ps_raise (pos := pos2) hc tk (pmk_oex (p := p) (pos := pos) F.ox F.iC tI F1 hr hb .nil (CX := CX0) (fun _ _ _ _ _ _ _ h => h.elim) hg hm (pa_cons (pe_mono he) pa_nil hs) hdb hs hpl)
  ⟨fun pins s σ H D I h => z.run pins s σ H D I (mk_reads F h)⟩
end
/-! ### what is asked of a caught exception -/
def rIsX (K : PySem.W.Frag) (a : Addr) (cls : Value) (d : Option Addr) : List V → Hp → VK → Prop := fun xs H Q => ∃ (D dd : Addr) (fs : List (Str × V)) (c : V) (cv : Value) (b : Bool), cls = .ref D ∧ d = some dd ∧ ExcC K D ∧ H dd = some (.xd fs) ∧ xs = [.ref a, c] ∧
  ClsV c cv ∧ PySem.W.kitOne K (.ref D) cv = some b ∧ Q (.bl b) H
end Rx
namespace PySem.W
open PySem PySem.Spec PySem.Calls PyProof.Rows
section
variable {prog : Program} {w : World} {A : Around} {E : Value → Shared → Prop} {s : Shared} {K : Frag} {x D : Addr} {ox : Obj} {od : Option Obj}
theorem findObj_dataX {C : Addr} {name : Str} {a g : Value} (hc : (clsIn K C).isSome = true) (ha : findIn K (.ref C) name = some (some a)) (hg : specialIn K a "__get__" = some (some g)) (ht : takesIn K a = some true) : findObj K C od name = some (.bind g a) := by
  obtain ⟨cd, hc⟩ := Option.isSome_iff_exists.mp hc
  unfold findObj
  rw [hc, Option.bind_some, ha, Option.bind_some]
  simp [hg, ht]
theorem kin_classX {Q : Option Value → Shared → Prop} (hga : findIn K (.ref D) "__getattribute__" = some (some (.builtin "BaseException.__getattribute__"))) (hgt : findIn K (.ref D) "__getattr__" = some none) (hsub : subIn K (.ref D) (.type "BaseException") = some true)
    (hdct : hasDictIn K D = true) (ha : findIn K (.ref D) "__class__" = some (some (.builtin "object.__class__")))
    (hn : specialIn K (.builtin "object.__class__") "__get__" = some (some (.builtin "getset_descriptor.__get__"))) (htk : takesIn K (.builtin "object.__class__") = some true) (hm : mroIn K D (.type "object") = some true)
    (X : K.In s.heap) (I : InstAt s.heap x ox D od) (h : Q (some (.ref D)) { s with toks := s.toks + 1 }) : wpAny (model prog w) A (getAttr? (.ref x) "__class__") Q E s := by
  have hf : findObj K D od "__class__" = some (.bind (.builtin "getset_descriptor.__get__") (.builtin "object.__class__")) := findObj_dataX (by obtain ⟨cd, hc, _⟩ := any_some hdct; rw [hc]; rfl) ha hn htk
  obtain ⟨hp, g, d, t, os⟩ := s
  have L0 := I.type (M := model prog w)
  have L1 := looks_findIn (M := model prog w) X hga
  have L2 := looks_findIn (M := model prog w) X hgt
  have L3 := looks_find (M := model prog w) X I hf
  have sub : Looks (model prog w) hp (isInstance (.ref x) (.type "BaseException")) true := L0.andThen (looks_subIn X hsub)
  have hx0 : (false && onTheHeap (Value.builtin "BaseException.__getattribute__")) = false := rfl
  have hx2 : (Value.builtin "BaseException.__getattribute__" == Value.builtin "object.__getattribute__") = false := by decide +kernel
  have hx1 : (onTheHeap (Value.ref D) && Value.builtin "BaseException.__getattribute__" == Value.builtin "object.__getattribute__") = false := by rw [hx2]; rfl
  unfold getAttr? getAttrBy? getAttrBy
  refine wpAny_bind (wpAny_mkText (wpAny_bind (wpAny_attempt (wpAny_holding (wpAny_bind (L0.at (wpAny_bind (L1.at ?_))))))))
  show wpAny _ _ (if (onTheHeap (Value.ref D) && Value.builtin "BaseException.__getattribute__" == Value.builtin "object.__getattribute__") = true then _ else _) _ _ _
  rw [hx1, if_neg Bool.false_ne_true]
  unfold getAttrByItsOwn hookBefore
  refine wpAny_bind ?_
  rw [if_pos (show onTheHeap (Value.ref D) = true from rfl)]
  refine L2.at ?_
  refine wpAny_bind (wpAny_attempt (wpAny_holding ?_))
  unfold callGetattribute
  rw [hx0, if_neg Bool.false_ne_true]
  unfold boundAndCalled
  rw [PySem.F.excAttr_ValueError.ga.bind (.ref x)]
  refine wpAny_bind (wpAny_pure ?_)
  show wpAny _ _ (call (.builtin "BaseException.__getattribute__") [.ref x, .str "__class__" t]) _ _ _
  refine wpAny_call (codeAny_call_builtin PySem.F.excAttr_ValueError.ga.plain PySem.F.entry_bexc_ga ?_)
  refine @check_slot (model prog w) _ _ ⟨hp, g, d, t + 1, os⟩ "BaseException.__getattribute__" "BaseException" "__getattribute__" (.ref x) [.str "__class__" t] [] _ (by decide +kernel) (by decide +kernel) sub (PySem.F.args_bexc_ga (.ref x) (.str "__class__" t)) ?_
  unfold Builtin.«object.__getattribute__»
  refine wpAny_bind (wpAny_of_eq (a := ((Value.ref x : Value), [Value.str "__class__" t])) (by first | rfl | (simp only [slotArgs]; rfl)) ?_)
  refine wpAny_bind (wpAny_pure (wpAny_bind (L0.at (wpAny_bind (L3.at ?_)))))
  show wpAny _ _ (holding [Value.builtin "object.__class__"] (call (.builtin "getset_descriptor.__get__") [.builtin "object.__class__", .ref x, .ref D]) >>= ret) _ _ _
  refine wpAny_bind (wpAny_holding (wpAny_call (class_get (s := ⟨hp, g, d, t + 1, os⟩) (ox := ox) (od := od) X I hm ?_)))
  refine wpAny_pure ?_
  show wpAny _ _ (handedOut (.ref D)) _ _ _
  rw [handedOut_of (v := .ref D) rfl]
  first
    | exact wpAny_pure (wpAny_pure h)
    | exact wpAny_pure h
    | exact wpAny_pure (wpAny_bind (wpAny_pure (wpAny_pure h)))
theorem kitx_excX (hga : findIn K (.ref D) "__getattribute__" = some (some (.builtin "BaseException.__getattribute__"))) (hgt : findIn K (.ref D) "__getattr__" = some none) (hsub : subIn K (.ref D) (.type "BaseException") = some true) (hdct : hasDictIn K D = true) (ha : findIn K (.ref D) "__class__" = some (some (.builtin "object.__class__")))
    (hn : specialIn K (.builtin "object.__class__") "__get__" = some (some (.builtin "getset_descriptor.__get__"))) (htk : takesIn K (.builtin "object.__class__") = some true) (hm : mroIn K D (.type "object") = some true) :
    KitX K (.ref x) (.ref D) (fun h => InstAt h x ox D od) where
  ty := fun _ _ _ I => I.type
  it := fun _ _ X _ => by
    obtain ⟨cdD, hcD, _⟩ := any_some hdct
    unfold clsIn at hcD
    split at hcD
    · rename_i c' d' cd' sl' ho
      intro A' Q' E' s' k q
      unfold isType loadHead
      exact wpAny_bind (wpAny_loadPart (k _ _ (X _ _ ho)) (wpAny_pure q))
    · cases hcD
  ne := fun h tp dd its n sl X htp => by
    obtain ⟨cdD, hcD, _⟩ := any_some hdct
    refine Bool.eq_false_iff.mpr fun q => ?_
    have e : D = tp := Value.ref.inj (beq_iff_eq.mp q)
    subst e
    unfold clsIn at hcD
    split at hcD
    · rename_i c' d' cd' sl' ho
      have z := (X _ _ ho).symm.trans htp
      cases z
    · cases hcD
  ca := fun X I k => kin_classX hga hgt hsub hdct ha hn htk hm X I k
end
end PySem.W
namespace Rx
open PySem PySem.Spec PyProof.Rows L2 Rd
theorem call_isX {X : Cx} {a : Addr} {oe : Obj} {cls : Value} {d : Option Addr} {pn : List (Addr × Obj)} (hz : Zc cls d oe) (hf : ∃ vs, oe.data = .fields vs) : CallR (X.suite a ((a, oe) :: pn)) (.builtin "isinstance") (rIsX X.K a cls d) := by
  intro pins s σ H xs us Q I r h
  obtain ⟨D, dd, fs, c, cv, b, rfl, rfl, C, hd, rfl, hcv, e, q⟩ := h
  obtain ⟨u1, u2, rfl, r1, r2⟩ := vals2 r
  cases (show u1 = Value.ref a from r1)
  have ec := hcv.eq r2
  subst ec
  obtain ⟨hget, _⟩ := I.pin (a, oe) (List.mem_append.mpr (.inl List.mem_cons_self))
  obtain ⟨vs, hv⟩ := hf
  have hx : ObjOk X.prog X.w H s.heap dd (.xd fs) := I.hok dd _ hd
  obtain ⟨mA, hns, hr⟩ := hx
  obtain ⟨od, ho, hl⟩ := lookIn_ns hns
  have J : PySem.W.InstAt s.heap a oe D (some od) := ⟨hget, hz.1, by unfold PySem.W.notCls; rw [hv] <;> rfl, by rw [hz.2]; exact ho⟩
  exact PySem.W.kia_one (PySem.W.kitx_excX C.hg C.hk C.hs C.hd C.ha C.hn C.ht C.hm) I.kIn J e (fun z => nomatch z) fun tk => ⟨.bl b, H, I.kept (t' := tk) fun _ _ z => z, rfl, q⟩
theorem isX {K : PySem.W.Frag} {a fI C E dd : Addr} {b : Bool} {fs : List (Str × V)} {H : Hp} {Q : VK} (FC : ExcF K fI C) (FE : ExcF K fI E) (h : PySem.W.subIn K (.ref C) (.ref E) = some b) (hd : H dd = some (.xd fs)) (q : Q (.bl b) H) : rIsX K a (.ref C) (some dd) [.ref a, .ref E] H Q :=
  ⟨C, dd, fs, _, _, b, rfl, rfl, FC.is, hd, rfl, .own E, kit FC FE h, q⟩
/-- e.value -/
def XvG (K : PySem.W.Frag) (a : Addr) (cls : Value) (d : Option Addr) (n : Str) : V → Hp → VK → Prop := fun x H1 Q => x = .ref a ∧ ∃ (C dd : Addr) (fs : List (Str × V)) (v : V), cls = .ref C ∧ d = some dd ∧ ExcC K C ∧ PySem.W.findIn K (.ref C) n = some none ∧ H1 dd = some (.xd fs) ∧ fs.lookup n = some v ∧ Q v H1
def tXv (K : PySem.W.Frag) (a : Addr) (cls : Value) (d : Option Addr) (n : Str) (te : TE) : TE := fun σ H Q => te σ H fun x H1 => XvG K a cls d n x H1 Q
theorem pe_xv {X : Cx} {a : Addr} {oe : Obj} {cls : Value} {d : Option Addr} {pn : List (Addr × Obj)} {e : Expr} {te : TE} {pos : Pos} {n : Str} (hz : Zc cls d oe) (hf : ∃ vs, oe.data = .fields vs) (he : PE (X.suite a ((a, oe) :: pn)) e te)
    (hb : attributeBase e n X.env (eval e X.env) = eval e X.env := by rfl) : PE (X.suite a ((a, oe) :: pn)) (.Attribute e n pos) (tXv X.K a cls d n te) := by
  refine ⟨fun pins s σ H Q I h => ?_⟩
  refine attr_of hb (thn (he.run pins s σ H _ I h) fun u s1 hh => ?_)
  obtain ⟨x, H1, I1, rx, ex, C, dd, fs, v, ec, ed, T, hno, ea, l, q⟩ := hh
  subst ex
  obtain rfl : u = Value.ref a := rx
  subst ec
  subst ed
  obtain ⟨ha, _⟩ := I1.pin (a, oe) (List.mem_append_left _ List.mem_cons_self)
  obtain ⟨vs, hd⟩ := hf
  have hx : ObjOk X.prog X.w H1 s1.heap dd (.xd fs) := I1.hok dd _ ea
  obtain ⟨mA, hns, hr⟩ := hx
  obtain ⟨od, ho, hl⟩ := lookIn_ns hns
  obtain ⟨u, hu, ru⟩ := RelO.some_of (v := v) (o := mA n) (by rw [← l]; exact hr n)
  have J : PySem.W.InstAt s1.heap a oe C (some od) := ⟨ha, hz.1, by unfold PySem.W.notCls; rw [hd] <;> rfl, by rw [hz.2]; exact ho⟩
  exact HandSPX.exc_get I1.kIn J T.hg T.hk T.hs (PySem.W.findObj_own T.hd hno rfl (by rw [hl, hu])) (handed_of ru) ⟨v, H1, I1.tok _, ru, q⟩
theorem xvH {K : PySem.W.Frag} {a : Addr} {cls : Value} {d : Option Addr} {n : Str} {te : TE} {σ : L2.St} {H : Hp} {Q : VK} (h : te σ H fun x H1 => XvG K a cls d n x H1 Q) : tXv K a cls d n te σ H Q := h
theorem xv {K : PySem.W.Frag} {a fI C dd : Addr} {v : V} {H : Hp} {Q : VK} (F : ExcF K fI C) (hd : H dd = some (.xd [("value", v)])) (q : Q v H) : XvG K a (.ref C) (some dd) "value" (.ref a) H Q :=
  ⟨rfl, C, dd, _, v, rfl, rfl, F.is, F.nv, hd, by simp [List.lookup], q⟩
/-- the clause names the class that it is -/
theorem caught {K : PySem.W.Frag} {fI C E : Addr} {i : Nat} {ts : Addr → Value → Option Addr → TS} {Wout : WX} {D : Ends} {d : Option Addr} {σ : L2.St} {H : Hp} (FE : ExcF K fI E) (h : PySem.W.subIn K (.ref C) (.ref E) = some true)
    (q : ∀ a, H a = none → ts a (.ref C) d { nx := fun σ' H' => D.nx (σ'.set i none) H', rt := D.rt, bk := fun σ' H' => D.bk (σ'.set i none) H', ct := fun σ' H' => D.ct (σ'.set i none) H' } (σ.set i (some (.ref a))) H) : wAs K (.ref E) i ts Wout D (.ref C) d σ H :=
  ⟨true, exm FE h, fun _ a na => q a na, fun z => nomatch z⟩
theorem callS {sp : Sp} {E : L2.St → XK} {t : TA} {σ : L2.St} {H : Hp} {Q : VK} (h : t σ H fun vs H1 => sp vs H1 Q (E σ)) : tCallS sp E t σ H Q := h
end Rx
namespace Rx
open PySem PySem.Spec PyProof.Rows L2 Rd
/-- an __init__(self, value=None) called with both -/
theorem binds2 {K : PySem.W.Frag} {x qual : Str} {params : Arguments} {body : List Stmt} {scope : Scope} {f : Addr} {fd : FuncData} (F : FunD K x qual params body scope [.non] [] f fd)
    (h : ∀ (T : Addr) (kV doc pm : Value) (an : Option Addr) (cdv ct : Value) (us its : List Value), us.length = 2 → its.length = 1 →
      ∃ k, bindArgs (PySem.W.fnOf x qual params body scope (.ref T) kV doc pm an cdv ct) ⟨us, []⟩ = seqItems? (.ref T) >>= k ∧ k (some its.toArray) = pure ((["self", "value"] : List Str).zip (us ++ its.drop 1))) : Binds K fd ["self", "value"] [] := by
  obtain ⟨ds, r, b⟩ := F.binds1 (ps := ["self", "value"]) 2 1 (by simp) rfl h
  cases r
  exact b
end Rx
namespace Rx
open PySem PySem.Spec PyProof.Rows L2 Rd
theorem u66 {k : Nat} {A : Around} (h : Room k A) : A.units + 66 < cLine := by have := h.un; omega
/-! ### text * int -/
def nRepS : R2 := fun x y H Q => ∃ (z : Str) (n : Int), x = .str z ∧ y = .int n ∧ MulOk z n ∧ Q (.str (Txt.mul z n)) H
theorem o_repS {X : Cx} : OpR X (binaryOp .Mult) nRepS := by
  intro pins s σ H x y v u Q I rx ry h
  obtain ⟨z, n, rfl, rfl, hok, q⟩ := h
  obtain ⟨t, rfl⟩ := rx
  obtain ⟨t', rfl⟩ := ry
  exact SB.mul hok fun t' k => ⟨.str (Txt.mul z n), H, I.tok _, ⟨_, rfl⟩, q⟩
theorem repS {z : Str} {n : Int} {H : Hp} {Q : VK} (hok : MulOk z n) (q : Q (.str (Txt.mul z n)) H) : nRepS (.str z) (.int n) H Q := ⟨z, n, rfl, rfl, hok, q⟩
/-! ### things with their items -/
/-- what stands at a value, and at its items -/
def Rowed (H : Hp) (x : V) (k : Kd) (ks : List Kd) : Prop := Is H x k ∧ ∀ xs, k = .lst xs ∨ k = .tup xs → Paired (Is H) xs ks
theorem paired_same {H H' : Hp} (s : Same H H') {xs : List V} {ks : List Kd} (h : Paired (Is H) xs ks) : Paired (Is H') xs ks := by
  induction h with
  | nil => exact .nil
  | cons a _ ih => exact .cons (a.same s) ih
theorem Rowed.same {H H' : Hp} {x : V} {k : Kd} {ks : List Kd} (s : Same H H') (h : Rowed H x k ks) : Rowed H' x k ks := ⟨h.1.same s, fun xs e => paired_same s (h.2 xs e)⟩
/-- an address that is not t's -/
def Off (t : Addr) (x : V) : Prop := x ≠ .ref t
theorem off_ref {t a : Addr} (h : a ≠ t) : Off t (.ref a) := fun e => h (V.ref.inj e)
theorem Is.but {t : Addr} {H H' : Hp} {x : V} {k : Kd} (b : Rd.But t H H') (o : Off t x) (h : Is H x k) : Is H' x k := by
  cases h with
  | non => exact .non
  | bl b => exact .bl b
  | int i => exact .int i
  | str l => exact .str l
  | lst h l => exact .lst (b _ _ (fun e => o (by rw [e])) h) l
  | tup h l => exact .tup (b _ _ (fun e => o (by rw [e])) h) l
  | dct h => exact .dct (b _ _ (fun e => o (by rw [e])) h)
theorem paired_but {t : Addr} {H H' : Hp} (b : Rd.But t H H') {xs : List V} {ks : List Kd} (h : Paired (Is H) xs ks) : (∀ y ∈ xs, Off t y) → Paired (Is H') xs ks := by
  induction h with
  | nil => exact fun _ => .nil
  | cons a _ ih => exact fun o => .cons (a.but b (o _ (List.mem_cons_self ..))) (ih fun y m => o y (List.mem_cons_of_mem _ m))
/-- a thing of some kind, its items too; none of them is the object at t (the tape) -/
def Thing (t : Addr) (H : Hp) (x : V) : Prop := ∃ k ks, Rowed H x k ks ∧ Off t x ∧ ∀ xs, k = .lst xs ∨ k = .tup xs → ∀ y ∈ xs, Off t y
theorem Thing.same {t : Addr} {H H' : Hp} {x : V} (s : Same H H') (h : Thing t H x) : Thing t H' x := let ⟨k, ks, r, o⟩ := h; ⟨k, ks, r.same s, o⟩
theorem Thing.but {t : Addr} {H H' : Hp} {x : V} (b : Rd.But t H H') (h : Thing t H x) : Thing t H' x := let ⟨k, ks, r, o, p⟩ := h; ⟨k, ks, ⟨r.1.but b o, fun xs e => paired_but b (r.2 xs e) (p xs e)⟩, o, p⟩
theorem flat {t : Addr} {H : Hp} {x : V} {k : Kd} (h : Is H x k) (n : k.isSeq = false) (o : Off t x := by intro e; cases e) : Thing t H x := ⟨k, [], ⟨h, fun xs e => by rcases e with rfl | rfl <;> cases n⟩, o, fun xs e => by rcases e with rfl | rfl <;> cases n⟩
/-- an item -/
def Item (t : Addr) (H : Hp) (x : V) : Prop := (∃ k, Is H x k) ∧ Off t x
theorem item {t : Addr} {H : Hp} {x : V} {k : Kd} (h : Is H x k) (o : Off t x := by intro e; cases e) : Item t H x := ⟨⟨k, h⟩, o⟩
theorem Item.same {t : Addr} {H H' : Hp} {x : V} (s : Same H H') (h : Item t H x) : Item t H' x := let ⟨⟨k, i⟩, o⟩ := h; ⟨⟨k, i.same s⟩, o⟩
theorem Item.but {t : Addr} {H H' : Hp} {x : V} (b : Rd.But t H H') (h : Item t H x) : Item t H' x := let ⟨⟨k, i⟩, o⟩ := h; ⟨⟨k, i.but b o⟩, o⟩
theorem kinds {t : Addr} {H : Hp} : ∀ {xs : List V}, (∀ x ∈ xs, Item t H x) → ∃ ks, Paired (Is H) xs ks
  | [], _ => ⟨[], .nil⟩
  | x :: xs, h => let ⟨⟨k, i⟩, _⟩ := h x (List.mem_cons_self ..); let ⟨ks, r⟩ := kinds fun y m => h y (List.mem_cons_of_mem _ m); ⟨k :: ks, .cons i r⟩
theorem seqL {t : Addr} {H : Hp} {a : Addr} {xs : List V} (h : H a = some (.lst xs)) (o : a ≠ t) (l : xs.length ≤ 1000000) (i : ∀ x ∈ xs, Item t H x) : Thing t H (.ref a) :=
  let ⟨ks, r⟩ := kinds i; ⟨_, ks, ⟨.lst h l, fun ys e => by rcases e with e | e <;> cases e; exact r⟩, off_ref o, fun ys e => by rcases e with e | e <;> cases e; exact fun y m => (i y m).2⟩
theorem seqT {t : Addr} {H : Hp} {a : Addr} {xs : List V} (h : H a = some (.tup xs)) (o : a ≠ t) (l : xs.length ≤ 1000000) (i : ∀ x ∈ xs, Item t H x) : Thing t H (.ref a) :=
  let ⟨ks, r⟩ := kinds i; ⟨_, ks, ⟨.tup h l, fun ys e => by rcases e with e | e <;> cases e; exact r⟩, off_ref o, fun ys e => by rcases e with e | e <;> cases e; exact fun y m => (i y m).2⟩
theorem all_nil {P : V → Prop} : ∀ x ∈ ([] : List V), P x := fun _ h => nomatch h
theorem all_cons {P : V → Prop} {x : V} {xs : List V} (h : P x) (t : ∀ y ∈ xs, P y) : ∀ y ∈ x :: xs, P y := fun y m => by
  rcases List.mem_cons.mp m with rfl | m
  · exact h
  · exact t y m
theorem paired_get {R : V → Kd → Prop} {xs : List V} {ks : List Kd} (h : Paired R xs ks) : ∀ {i : Nat} {x : V}, xs[i]? = some x → ∃ k, ks[i]? = some k ∧ R x k := by
  induction h with
  | nil => intro i x e; simp at e
  | cons a _ ih =>
    intro i x e
    cases i with
    | zero => cases e; exact ⟨_, rfl, a⟩
    | succ i => exact ih e
/-! ### range(i, j, c) upwards -/
/-- how many -/
def cnt (i j c : Int) : Nat := if i < j then ((j - i - 1) / c + 1).toNat else 0
theorem rg_pos {i j c : Int} (c0 : 0 < c) (c1 : c < 1073741824) (hi : 0 ≤ i) (hi' : i < 2 ^ 62) (hj : 0 ≤ j) (hj' : j < 2 ^ 62) : RgC i j c (cnt i j c) := by
  have e : Builtin.Range.rangeSize i j c = (cnt i j c : Nat) := by
    unfold Builtin.Range.rangeSize cnt
    rw [if_pos c0]
    split
    · have : 0 ≤ (j - i - 1) / c := Int.ediv_nonneg (by omega) (by omega)
      omega
    · rfl
  have hb : (cnt i j c : Int) ≤ 2 ^ 62 + 1 := by
    unfold cnt
    split
    · have h1 : 0 ≤ (j - i - 1) / c := Int.ediv_nonneg (by omega) (by omega)
      have h2 : (j - i - 1) / c ≤ j - i - 1 := Int.ediv_le_self _ (by omega)
      omega
    · decide
  refine ⟨by omega, by omega, ?_, e⟩
  unfold Builtin.Range.small
  rw [e]
  simp only [Builtin.Range.rangeFitsLong, Bool.and_eq_true, Bool.or_eq_true, decide_eq_true_eq, beq_iff_eq]
  rw [if_pos c0]
  simp only [Bool.and_eq_true, decide_eq_true_eq]
  omega
theorem cnt_lt {i j c : Int} (c0 : 0 < c) (k : Nat) : k < cnt i j c ↔ i + (k : Int) * c < j := by
  unfold cnt
  split
  · rename_i h
    have h1 : 0 ≤ (j - i - 1) / c := Int.ediv_nonneg (by omega) (by omega)
    have e : k < ((j - i - 1) / c + 1).toNat ↔ (k : Int) ≤ (j - i - 1) / c := by omega
    rw [e, Int.le_ediv_iff_mul_le c0]
    omega
  · have : 0 ≤ (k : Int) * c := Int.mul_nonneg (by omega) (by omega)
    omega
theorem rng3 {ta : TA} {σ : L2.St} {H : Hp} {R : It → Hp → Prop} (h : ta σ H fun vs H1 => ∃ (i j c : Int) (n : Nat), vs = [.int i, .int j, .int c] ∧ RgC i j c n ∧ R (Itc i c n) H1) : iRng3 ta σ H R := h
end Rx
namespace Rx
open PySem PySem.Spec PyProof.Rows L2 Rd
/-! ### {k: v} written out -/
theorem disp {trs : List (TE × TE)} {σ : L2.St} {H : Hp} {Q : VK} (h : ∀ (p : Addr) (G : Hp), H p = none → G p = some (.dK []) → Same H G → tPairs trs σ G fun ps H2 => H2 p = some (.dK []) ∧ ∃ kvs : List (Key × V), ps = kvs.map (fun kv => (kV kv.1, kv.2)) ∧ kvs.length ≤ 15 ∧
    ∀ G2 : Hp, G2 p = some (.dK (mergeK [] kvs)) → (∀ b, b ≠ p → G2 b = H2 b) → Q (.ref p) G2) : tDisp trs σ H Q := fun p hp => by
  have key := h p _ hp upd_same (same_upd hp)
  have mono : ∀ {trs : List (TE × TE)} {σ : L2.St} {H : Hp} {A B : List (V × V) → Hp → Prop}, A = B → tPairs trs σ H A → tPairs trs σ H B := fun e h => e ▸ h
  refine mono ?_ key
  funext ps H2
  refine propext ⟨fun ⟨a, kvs, b, c, d⟩ => ⟨a, kvs, b, c, d _ upd_same fun b hb => upd_ne hb⟩, fun ⟨a, kvs, b, c, d⟩ => ⟨a, kvs, b, c, fun G2 g off => ?_⟩⟩
  have e : G2 = upd H2 p (.dK (mergeK [] kvs)) := by
    funext x
    by_cases q : x = p
    · rw [q, g, upd_same]
    · rw [off x q, upd_ne q]
  rw [e]
  exact d
theorem pair {tk tv : TE} {r : List (TE × TE)} {σ : L2.St} {H : Hp} {Q : List (V × V) → Hp → Prop} (h : tk σ H fun x H1 => tv σ H1 fun y H2 => tPairs r σ H2 fun ps H3 => Q ((x, y) :: ps) H3) : tPairs ((tk, tv) :: r) σ H Q := h
theorem pair0 {σ : L2.St} {H : Hp} {Q : List (V × V) → Hp → Prop} (h : Q [] H) : tPairs [] σ H Q := h
theorem same_off2 {H G G2 : Hp} {p : Addr} (s : Same H G) (np : H p = none) (off : ∀ b, b ≠ p → G2 b = G b) : Same H G2 := fun b o e => by rw [off b (ne_of_none e np)]; exact s b o e
end Rx
namespace Rx
open PySem PySem.Spec PyProof.Rows L2 Rd
theorem eqI_refl {K : PySem.W.Frag} {H : Hp} {y : V} {k : Kd} (h : Is H y k) : EqI K H y y := by
  cases h with
  | non => exact .inl ⟨rfl, rfl⟩
  | bl b => exact .inl ⟨rfl, rfl⟩
  | int i => exact .inl ⟨rfl, rfl⟩
  | str l => exact .inl ⟨rfl, rfl⟩
  | lst h l => exact .inr (.inl ⟨_, rfl, rfl⟩)
  | tup h l => exact .inr (.inl ⟨_, rfl, rfl⟩)
  | dct h => exact .inr (.inl ⟨_, rfl, rfl⟩)
end Rx

/-! The number of unlike texts: len(set(xs)) where no text stands twice. -/
namespace Re
open PySem PySem.Spec PyProof.Rows L2
section
variable {prog : Program} {w : World} {A : Around} {R : Result → Shared → Prop} {I : Addr} {fp wr : List Addr} {G : Array GenState → Array GenState → Prop} {P : Nat → Value → Prop} {St : Nat → Shared → Prop}
def Upto (xs : List Str) (i : Nat) : Str → Bool := fun y => (xs.take i).any (· == y)
theorem upto_step {xs : List Str} {i : Nat} {x : Str} (h : xs[i]? = some x) (y : Str) : (Upto xs i y || decide (y = x)) = Upto xs (i + 1) y := by
  unfold Upto
  rw [Rd.take_snoc h, List.any_append, Bool.eq_iff_iff]
  simp only [Bool.or_eq_true, decide_eq_true_eq, List.any_cons, List.any_nil, Bool.or_false, beq_iff_eq]
  exact or_congr_right eq_comm
theorem upto_new {xs : List Str} {i : Nat} {x : Str} (nd : xs.Nodup) (h : xs[i]? = some x) : Upto xs i x = false := by
  refine Bool.eq_false_iff.mpr fun q => ?_
  obtain ⟨y, m, e⟩ := List.any_eq_true.mp q
  rw [beq_iff_eq] at e
  subst e
  exact Rd.nodup_take nd h m
/-- the loop that fills a set with unlike texts -/
theorem fill {xs : List Str} (W : WalksS prog w A.in1 I fp wr G xs.length P St) (D : Addr) (out : D ∉ fp) (nd : xs.Nodup) (room : xs.length + 1 < scanBound)
    (val : ∀ i v, P i v → ∃ x t, xs[i]? = some x ∧ v = .str x t) (left : Nat) : ∀ (i : Nat) (s : Shared), xs.length - i = left → i ≤ xs.length → St i s → s.heap.SetOf (strKind prog w) D (Upto xs i) i →
      (∀ s', Moved (D :: wr) G s s' → s'.heap.SetOf (strKind prog w) D (Upto xs xs.length) xs.length → R (.ok (.ret .none)) s') → codeAny (model prog w) A (.builtin "set.update.loop" ⟨[.ref D, .ref I], []⟩) R s := by
  have more : ∀ b ∈ wr, b ∈ D :: wr := fun b h => .tail _ h
  have stay : ∀ {s s' : Shared} {i : Nat}, Moved wr G s s' → s.heap.SetOf (strKind prog w) D (Upto xs i) i → s'.heap.SetOf (strKind prog w) D (Upto xs i) i :=
    fun m ⟨o, es, ep, t, h, r⟩ => ⟨o, es, ep, t, m.heap D _ (fun z => out (W.sub _ z)) h, r⟩
  induction left with
  | zero =>
    intro i s e le st hD k
    obtain rfl : i = xs.length := by omega
    refine codeAny_builtin F.entry_set_update_loop ?_
    rw [Around.under_plainId F.plain_set_update_loop _]
    show wpAny _ A.in1 (pyNext (.ref I) >>= _) _ _ s
    exact wpAny_bind (W.done s _ _ st fun s' m => wpAny_pure (k s' (m.mono more) (stay m hD)))
  | succ left ih =>
    intro i s e le st hD k
    have lt : i < xs.length := by omega
    refine codeAny_builtin F.entry_set_update_loop ?_
    rw [Around.under_plainId F.plain_set_update_loop _]
    show wpAny _ A.in1 (pyNext (.ref I) >>= _) _ _ s
    refine wpAny_bind (W.item i s _ _ lt st fun v s' hv st' m => ?_)
    obtain ⟨x, t, hx, rfl⟩ := val i v hv
    have hD' := stay m hD
    show wpAny _ A.in1 (holding [Value.str x t] (setAdd D (.str x t)) >>= _) _ _ s'
    refine wpAny_bind (wpAny_holding ?_)
    unfold setAdd
    refine wpAny_holding (wpAny_bind ((strKind prog w).pyHash (k := x) (strKind_is _ _ _ _) ?_))
    refine wpAny_setAddHashed_of (knd := strKind prog w) (s := { s' with toks := s'.toks + 1 }) (strKind_is _ _ _ _) rfl hD' (by omega) fun h' but hN => ?_
    rw [upto_new nd hx] at hN
    refine wpAny_pure ⟨plainId_quiet F.plain_set_update_loop _, ih (i + 1) _ (by omega) lt (W.frame _ s' _ _ st' (Nat.le_succ _) fun b hb o e => ?_) (SetOf_congr hN (upto_step hx) rfl) fun s2 m2 hS2 => ?_⟩
    · rw [but.2 b fun q => out (q ▸ hb)]
      exact e
    · refine k s2 (Moved.trans W.gtrans ((m.mono more).then_heap (Nat.le_succ _) fun b o hb e => ?_) m2) hS2
      rw [but.2 b fun q => hb (q ▸ .head _)]
      exact e
end
section
variable {prog : Program} {w : World} {A : Around} {E : Value → Shared → Prop} {s : Shared}
def bareSet (led : Bool) : Obj := { cls := .type "set", dict := none, data := .set #[] 0 (.fresh 0 0 led) }
/-- what set(..) leaves -/
def Left (prog : Program) (w : World) (s : Shared) (xs : List Str) (s' : Shared) : Prop := ∃ (h' : Heap) (tk : Nat), s' = { s with heap := h', toks := tk } ∧ h'.SetOf (strKind prog w) s.heap.objs.size (Upto xs xs.length) xs.length ∧ ∀ b o, b < s.heap.objs.size → s.heap.get? b = some o → h'.get? b = some o
theorem bare_of {h : Heap} {a : Addr} {led : Bool} (e : h.get? a = some (bareSet led)) (xs : List Str) : h.SetOf (strKind prog w) a (Upto xs 0) 0 :=
  SetOf_congr ((setObjOf_fresh (knd := strKind prog w) led).setOf e (by unfold scanBound; omega)) (fun _ => rfl) rfl
/-- set.__init__ over a list of unlike texts -/
theorem fill_list {led : Bool} {l : Addr} {items : Array Value} {xs : List Str} (hh : A.handled = none) (hl : s.heap.IsList l items) (hi : StrsAre items.toList xs) (nd : xs.Nodup) (room : xs.length + 1 < scanBound) {Q : PySem.Fin → Shared → Prop}
    (h : ∀ s', Left prog w s xs s' → wpAny (model prog w) A (ret Value.none) Q E s') :
    wpAny (model prog w) A (Builtin.«set.__init__» ⟨[.ref s.heap.objs.size, .ref l], []⟩) Q E { s with heap := s.heap.push (bareSet led) } := by
  have hD : (s.heap.push (bareSet led)).get? s.heap.objs.size = some (bareSet led) := Heap.get?_push_size _ rfl
  have hT : Shared.TypeIs { s with heap := s.heap.push (bareSet led) } (.ref s.heap.objs.size) "set" := ⟨_, hD, rfl⟩
  have big : l < s.heap.objs.size := let ⟨_, e, _⟩ := hl; Heap.lt_size e
  have hl1 : (s.heap.push (bareSet led)).IsList l items := hl.push _
  obtain ⟨ol, hol, hcl, nl, hdl⟩ := hl1
  obtain ⟨ocls, odict, odata, oslots⟩ := ol
  simp only at hcl hdl
  subst hcl
  subst hdl
  have hsls := PySem.F.sub_list_set
  have hslf := PySem.F.sub_list_frozenset
  have hne : (Value.type "list" == Value.type "dict") = false := by decide
  have hl1 : (s.heap.push (bareSet led)).IsList l items := hl.push _
  unfold Builtin.«set.__init__» noKeywords Builtin.Frozenset.updateFrom
  generalize hPI : pyIter = PI
  wp_walk
  subst hPI
  have hz : (s.heap.push (bareSet led)).objs.size = s.heap.objs.size + 1 := Heap.size_push ..
  have n1 : l ≠ (s.heap.push (bareSet led)).objs.size := by rw [hz]; exact Nat.ne_of_lt (Nat.lt_succ_of_lt big)
  have sz : xs.length = items.size := by rw [← StrsAre.len_eq hi, Array.length_toList]
  have val : ∀ (i : Nat) (v : Value), items[i]? = some v → ∃ x t, xs[i]? = some x ∧ v = .str x t := fun i v hv => by
    obtain ⟨t, e⟩ := SS.strs_at hi i v (by rw [Array.getElem?_toList]; exact hv)
    have lt : i < xs.length := by rw [sz]; exact (Array.getElem?_eq_some_iff.mp hv).1
    refine ⟨xs[i], t, List.getElem?_eq_getElem lt, ?_⟩
    rw [e, List.getD_eq_getElem?_getD, List.getElem?_eq_getElem lt]
    rfl
  refine wpAny_pyIter_list hl1 (wpAny_bind (wpAny_runValue ?_))
  have hh1 : A.in1.handled = none := by simp [hh]
  have W := (Walks.list (prog := prog) (w := w) hh1 _ l n1 items).toS
  rw [← sz] at W
  refine fill W s.heap.objs.size (by rw [hz, List.mem_cons, List.mem_singleton, not_or]; exact ⟨Nat.ne_of_lt (Nat.lt_succ_self _), Nat.ne_of_gt big⟩) nd room val (xs.length - 0) 0 _ rfl (Nat.zero_le _) ⟨⟨_, Heap.get?_push_size _ rfl, rfl, rfl⟩, hl1.push _⟩ (bare_of (led := led) (Heap.get?_push_of_some _ hD) xs) ?_
  intro s' m hS'
  refine wpAny_pure (h s' ⟨s'.heap, s'.toks, ?_, hS', fun b o lt e => m.heap b o ?_ (Heap.get?_push_of_some _ (Heap.get?_push_of_some _ e))⟩)
  · obtain ⟨h', g', d', tk', os'⟩ := s'
    have e1 : g' = s.gens := m.gens
    have e2 : d' = s.drawn := m.drawn
    have e3 : os' = s.os := m.os
    rw [e1, e2, e3]
  · rw [hz, List.mem_cons, List.mem_singleton, not_or]
    exact ⟨Nat.ne_of_lt lt, Nat.ne_of_lt (Nat.lt_succ_of_lt lt)⟩
/-- set(xs) -/
theorem call_set {l : Addr} {items : Array Value} {xs : List Str} {Q : Value → Shared → Prop} (hh : A.handled = none) (hl : s.heap.IsList l items) (hi : StrsAre items.toList xs) (nd : xs.Nodup) (room : xs.length + 1 < scanBound)
    (h : ∀ s', Left prog w s xs s' → Q (.ref s.heap.objs.size) s') : wpAny (model prog w) A (call (.type "set") [.ref l]) Q E s := by
  obtain ⟨c, tl, hmro⟩ := PySem.F.called_set.mro
  have hmade := PySem.F.called_set.made
  have hsub := PySem.F.called_set.sub
  refine wpAny_call (codeAny_of_tree ?_)
  show wpAny _ _ (callAny (.type "set") _) _ _ _
  refine wpAny_pure ⟨Code.quiet_builtin _ (by decide +kernel), codeAny_builtin PySem.F.entry_type_call ?_⟩
  rw [Around.under_plain (weight_type_call_type "set" [.ref l] []) rfl]
  have h1 := PySem.F.called_set.notType
  have h2 := PySem.F.called_set.canCreate
  have hct := PySem.F.typeCall_set_1 (.ref l)
  repeat (any_goals (first | assumption | wp_step))
  refine codeAny_mono (code_set_new_1 (.ref l) (E := E) (Q₁ := fun y s1 => ∃ led : Bool, y = .ref s.heap.objs.size ∧ s1 = { s with heap := s.heap.push (bareSet led) }) fun led => ⟨led, rfl, rfl⟩) fun r s1 hr => ?_
  match r, hr with
  | .ok (.ret y), ⟨led, hy, hs⟩ =>
    subst hy
    subst hs
    have hD : (s.heap.push (bareSet led)).get? s.heap.objs.size = some (bareSet led) := Heap.get?_push_size _ rfl
    have hT : Shared.TypeIs { s with heap := s.heap.push (bareSet led) } (.ref s.heap.objs.size) "set" := ⟨_, hD, rfl⟩
    have hli := PySem.F.called_set.init.lookup
    have hbi := PySem.F.called_set.init.bind (.ref s.heap.objs.size)
    repeat (any_goals (first | assumption | wp_step))
    refine codeAny_mono (codeAny_call_builtin (R := wants (fun r s2 => r = .none ∧ Left prog w s xs s2) E) PySem.F.called_set.init.plain PySem.F.entry_set_init (check_set_init_1 hT ?_)) fun r2 s2 hr2 => ?_
    · refine fill_list (by simp [hh]) hl hi nd room fun s' hL => ?_
      exact wpAny_pure ⟨rfl, hL⟩
    · match r2, hr2 with
      | .ok (.ret v), ⟨hv, hL⟩ =>
        subst hv
        repeat (any_goals (first | assumption | wp_step))
        exact h _ hL
      | .error e, q => exact q
  | .error e, q => exact q
/-- len(set(xs)), no text of xs twice -/
def tLenSet (K : PySem.W.Frag) (ta : TE) : TE := fun σ H Q => ta σ H fun x H1 => ∃ (l : Addr) (xs : List Str), x = .ref l ∧ SqL K H1 l (xs.map V.str) ∧ xs.Nodup ∧ xs.length ≤ 1000 ∧ Q (.int xs.length) H1
theorem lenSet {K : PySem.W.Frag} {σ : L2.St} {H : Hp} {ta : TE} {Q : VK} (h : ta σ H fun x H1 => ∃ (l : Addr) (xs : List Str), x = .ref l ∧ SqL K H1 l (xs.map V.str) ∧ xs.Nodup ∧ xs.length ≤ 1000 ∧ Q (.int xs.length) H1) : tLenSet K ta σ H Q := h
end
section
variable {X : Cx}
theorem pe_lenSet {a : Expr} {ta : TE} {p p2 q pos : Pos} (hc : X.calm = true) (hg : Gl X "len") (hm : X.mg "len" = none) (hg2 : Gl X "set") (hm2 : X.mg "set" = none) (ha : PE X a ta)
    (na : starEach [a] X.env = (false, eval a X.env) :: starEach [] X.env := by rfl) : PE X (.Call (.Name "len" p) [.Call (.Name "set" p2) [a] [] q] [] pos) (tLenSet X.K ta) := by
  refine ⟨fun pins s σ H Q I h => Call_ (ld_blt I hg hm boot_len (callWith_builtin1 (args_cons (Call_ (ld_blt I hg2 hm2 boot_set (callWith_type1 (args_cons (thn (ha.run pins s σ H _ I h) fun v s1 ⟨x, H1, I1, r1, q1⟩ => args_nil ?_) na) na rfl))) rfl) rfl rfl))⟩
  obtain ⟨l, xs, rfl, hq, nd, few, q1⟩ := q1
  cases r1
  obtain ⟨its, r, pl, hz⟩ := I1.list hq
  refine call_set (I1.ok.hd hc) pl.isList (by simpa using strsAre_of r) nd (by unfold scanBound; omega) ?_
  rintro _ ⟨h', tk, rfl, hS, keep⟩
  refine args_nil ?_
  obtain ⟨o, es, ep, t, ho, hex, hd, _, _, _, hf, hn⟩ := hS
  have I2 : Inv X pins σ H1 { s1 with heap := h', toks := tk } := I1.kept fun b o e => keep b o (Heap.lt_size e) e
  exact call_len_set ho hex hd hf (by rw [hn]; omega) ⟨.int xs.length, H1, I2.tok _, ⟨_, by rw [hn]⟩, q1⟩
end
/-! ### list(text) -/
theorem vals_get : ∀ {xs : List V} {us : List Value}, xs.length = us.length → (∀ (i : Nat) (x : V) (u : Value), xs[i]? = some x → us[i]? = some u → RelV x u) → Vals xs us
  | [], [], _, _ => .nil
  | x :: xs, u :: us, l, h => .cons (h 0 x u rfl rfl) (vals_get (by simpa using l) fun i y v a b => h (i + 1) y v (by simpa using a) (by simpa using b))
def Signs (z : Str) : List Str := z.cps.toList.map fun c => (⟨#[c]⟩ : Str)
def rListStr : List V → Hp → VK → Prop := fun xs H Q => ∃ z : Str, xs = [.str z] ∧ z.length ≤ sizeLine ∧ Rd.NewQ (.lst ((Signs z).map V.str)) Q H
theorem listStr {z : Str} {H : Hp} {Q : VK} (l : z.length ≤ sizeLine) (h : Rd.NewQ (.lst ((Signs z).map V.str)) Q H) : rListStr [.str z] H Q := ⟨z, rfl, l, h⟩
section
variable {X : Cx}
theorem cr_listStr (hc : X.calm = true) : CallR X (.type "list") rListStr := by
  intro pins s σ H xs us Q I r h
  obtain ⟨z, rfl, l, q⟩ := h
  cases r with
  | cons ry rt =>
    cases rt
    obtain ⟨t, rfl⟩ := ry
    refine call_list_str (I.ok.hd hc) z t (fun h' tk acc c keep e its => ?_) l
    have sz : ((Signs z).map V.str).length = acc.toList.length := by
      unfold Signs
      rw [List.length_map, List.length_map, Array.length_toList, Array.length_toList, its.1]
    have v : Vals ((Signs z).map V.str) acc.toList := vals_get sz fun i x u hx hu => by
      obtain ⟨d, k, hd, rfl⟩ := its.2 i u (by rw [← Array.getElem?_toList]; exact hu)
      unfold Signs at hx
      rw [List.getElem?_map, List.getElem?_map, Array.getElem?_toList, hd] at hx
      cases hx
      exact ⟨k, rfl⟩
    have few : ((Signs z).map V.str).length ≤ sizeLine := by
      unfold Signs
      rw [List.length_map, List.length_map]
      exact l
    exact ⟨.ref s.heap.objs.size, _, I.laid (t' := tk) keep (Nat.le_refl _) (show ObjOk X.prog X.w _ h' _ (.lst ((Signs z).map V.str)) from ⟨few, acc.toList, c, v, e⟩), rfl, q _ (I.hok.fresh (Nat.le_refl _))⟩
end
/-! ### comprehensions with two fors -/
section
variable {σ : L2.St}
def Inner (D : Addr) (H1 : Hp) (R : Nat → List V → Hp → Prop) (i : Nat) (g1 : TG) (tt1 : TT) (te : TE) (vs1 : List Nat) (σ2 : L2.St) (J1 : It) (H4 : Hp) : Prop := ∃ W1 : Nat → Nat → Hp → Prop, (∃ m, W1 0 m H4) ∧ ∀ j k H, W1 j k H →
  (J1.stop j H ∧ Rd.LcP D H1 R (i + 1) H) ∨ (J1.go j H ∧ ∃ Nx1 : Hp → Prop, (∀ H', Nx1 H' → ∃ k', k' < k ∧ W1 (j + 1) k' H') ∧ ∀ x H', J1.yld j H x H' → g1 x (wipe σ2 vs1) H' fun σ3 H5 => wipe σ3 vs1 = wipe σ2 vs1 ∧ tt1 σ3 H5 fun b H6 =>
    if b = true then te σ3 H6 fun y H7 => ∃ acc, H7 D = some (.lst acc) ∧ acc.length < sizeLine ∧ Nx1 (upd H7 D (.lst (acc ++ [y]))) else Nx1 H6)
def Lc2 (J : It) (g : TG) (tt : TT) (wi1 : TI) (g1 : TG) (tt1 : TT) (te : TE) (vs vs1 : List Nat) (σ : L2.St) (H1 : Hp) (Q : VK) : Prop := ∀ D, H1 D = none → ∃ W : Nat → Nat → Hp → Prop, (∃ m, W 0 m (upd H1 D (.lst []))) ∧ ∀ i m H, W i m H →
      (J.stop i H ∧ Q (.ref D) H) ∨ (J.go i H ∧ ∃ Nx : Hp → Prop, (∀ H', Nx H' → ∃ m', m' < m ∧ W (i + 1) m' H') ∧ ∀ x H', J.yld i H x H' → g x (wipe σ vs) H' fun σ2 H2 => wipe σ2 vs = wipe σ vs ∧ tt σ2 H2 fun b H3 =>
        if b = true then wi1 σ2 H3 fun J1 H4 => ∃ W1 : Nat → Nat → Hp → Prop, (∃ m, W1 0 m H4) ∧ ∀ j k H, W1 j k H →
          (J1.stop j H ∧ Nx H) ∨ (J1.go j H ∧ ∃ Nx1 : Hp → Prop, (∀ H', Nx1 H' → ∃ k', k' < k ∧ W1 (j + 1) k' H') ∧ ∀ x H', J1.yld j H x H' → g1 x (wipe σ2 vs1) H' fun σ3 H5 => wipe σ3 vs1 = wipe σ2 vs1 ∧ tt1 σ3 H5 fun b H6 =>
            if b = true then te σ3 H6 fun y H7 => ∃ acc, H7 D = some (.lst acc) ∧ acc.length < sizeLine ∧ Nx1 (upd H7 D (.lst (acc ++ [y]))) else Nx1 H6)
        else Nx H3)
theorem lc2S {J : It} {n : Nat} {G : Hp → Prop} {Y : Nat → Hp → V → Hp → Prop} (w : Walk J n G Y) {g : TG} {tt : TT} {wi1 : TI} {g1 : TG} {tt1 : TT} {te : TE} {vs vs1 : List Nat} {H1 : Hp} {Q : VK} (hG : ∀ H, Same H1 H → G H) (R : Addr → Nat → List V → Hp → Prop)
    (r0 : ∀ (D : Addr) (G : Hp), H1 D = none → G D = some (.lst []) → Same H1 G → R D 0 [] G)
    (hs : ∀ (D : Addr) i x H H' acc, H1 D = none → i < n → H D = some (.lst acc) → Same H1 H → R D i acc H → Y i H x H' → g x (wipe σ vs) H' fun σ2 H2 => wipe σ2 vs = wipe σ vs ∧ tt σ2 H2 fun b H3 =>
      if b = true then wi1 σ2 H3 fun J1 H4 => Inner D H1 (R D) i g1 tt1 te vs1 σ2 J1 H4 else Rd.LcP D H1 (R D) (i + 1) H3)
    (hd : ∀ (D : Addr) acc H, H1 D = none → H D = some (.lst acc) → Same H1 H → R D n acc H → Q (.ref D) H) :
    Lc2 J g tt wi1 g1 tt1 te vs vs1 σ H1 Q := by
  intro D nD
  refine ⟨fun i m H => m = n - i ∧ i ≤ n ∧ Rd.LcP D H1 (R D) i H, ⟨n, by simp, Nat.zero_le _, [], upd_same, Rd.same_upd nD, r0 D _ nD upd_same (Rd.same_upd nD)⟩, ?_⟩
  rintro i m H ⟨rfl, hi, acc, h1, h2, h3⟩
  by_cases lt : i < n
  · exact .inr ⟨w.goes i H lt (hG H h2), Rd.LcP D H1 (R D) (i + 1), fun H' p => ⟨n - (i + 1), by omega, rfl, lt, p⟩, fun x H' y => hs D i x H H' acc nD lt h1 h2 h3 (w.yields i H x H' lt (hG H h2) y)⟩
  · obtain rfl : i = n := by omega
    exact .inl ⟨w.stops H (hG H h2), hd D acc H nD h1 h2 h3⟩
theorem innerS {D : Addr} {H1 H4 : Hp} {R : Nat → List V → Hp → Prop} {i : Nat} {g1 : TG} {tt1 : TT} {te : TE} {vs1 : List Nat} {σ2 : L2.St} {J1 : It} {n : Nat} {G : Hp → Prop} {Y : Nat → Hp → V → Hp → Prop} (w : Walk J1 n G Y) (R1 : Nat → List V → Hp → Prop) (h0 : Rd.LcP D H1 R1 0 H4) (hG : ∀ H, Same H1 H → G H)
    (hs : ∀ j x H H' acc, j < n → H D = some (.lst acc) → Same H1 H → R1 j acc H → Y j H x H' → g1 x (wipe σ2 vs1) H' fun σ3 H5 => wipe σ3 vs1 = wipe σ2 vs1 ∧ tt1 σ3 H5 fun b H6 =>
      if b = true then te σ3 H6 fun y H7 => Rd.LcPush D H1 R1 j y H7 else Rd.LcP D H1 R1 (j + 1) H6)
    (hd : ∀ acc H, H D = some (.lst acc) → Same H1 H → R1 n acc H → R (i + 1) acc H) : Inner D H1 R i g1 tt1 te vs1 σ2 J1 H4 := by
  refine ⟨fun j k H => k = n - j ∧ j ≤ n ∧ Rd.LcP D H1 R1 j H, ⟨n, by simp, Nat.zero_le _, h0⟩, ?_⟩
  rintro j k H ⟨rfl, hj, acc, h1, h2, h3⟩
  by_cases lt : j < n
  · exact .inr ⟨w.goes j H lt (hG H h2), Rd.LcP D H1 R1 (j + 1), fun H' p => ⟨n - (j + 1), by omega, rfl, lt, p⟩, fun x H' y => hs j x H H' acc lt h1 h2 h3 (w.yields j H x H' lt (hG H h2) y)⟩
  · obtain rfl : j = n := by omega
    exact .inl ⟨w.stops H (hG H h2), acc, h1, h2, hd acc H h1 h2 h3⟩
theorem lc2 {wi : TI} {g : TG} {tt : TT} {wi1 : TI} {g1 : TG} {tt1 : TT} {te : TE} {vs vs1 : List Nat} {H : Hp} {Q : VK} (h : wi σ H fun J H1 => Lc2 J g tt wi1 g1 tt1 te vs vs1 σ H1 Q) : tLc2 wi g tt wi1 g1 tt1 te vs vs1 σ H Q := h
end
/-! ### text[::-1] -/
def revS (z : Str) : Str := ⟨z.cps.reverse⟩
theorem revS_list (z : Str) : (revS z).cps.toList = z.cps.toList.reverse := by
  unfold revS
  simp
theorem rev_by (z : Str) (u : Tok) : Txt.sliceBy z none none (-1, u) = revS z := by
  refine PySem.W.str_of_cps ?_
  rw [step_rev_list, revS_list]
  refine List.ext_getElem? fun i => ?_
  rw [List.getElem?_map]
  rcases Nat.lt_or_ge i z.length with h | h
  · have l : z.cps.toList.length = z.length := Array.length_toList
    rw [List.getElem?_range h, List.getElem?_reverse (by omega), l, Array.getElem?_toList]
    have h2 : z.length - 1 - i < z.cps.size := by
      show _ < z.length
      omega
    simp [Array.getD, h2]
  · have l : z.cps.toList.length = z.length := Array.length_toList
    rw [List.getElem?_eq_none (by rw [List.length_range]; exact h), List.getElem?_eq_none (by rw [List.length_reverse]; omega)]
    rfl
def tRevS (te : TE) : TE := fun σ H Q => te σ H fun x H1 => ∃ z, x = .str z ∧ z.length ≤ sizeLine ∧ Q (.str (revS z)) H1
theorem revT {σ : L2.St} {te : TE} {H : Hp} {Q : VK} (h : te σ H fun x H1 => ∃ z, x = .str z ∧ z.length ≤ sizeLine ∧ Q (.str (revS z)) H1) : tRevS te σ H Q := h
section
variable {X : Cx}
theorem pe_revS {e : Expr} {te : TE} {k : Nat} {p1 p2 p3 pos : Pos} (he : PE X e te) : PE X (.Subscript e (.Slice none none (some (.UnaryOp .USub (.Constant (.int 1) k p1) p2)) p3) pos) (tRevS te) := by
  refine ⟨fun pins s σ H Q I h => Subscript_ (thn (he.run pins s σ H _ I h) fun v s1 ⟨x, H1, I1, r1, z, ex, few, q⟩ => ?_)⟩
  subst ex
  obtain ⟨t, rfl⟩ := r1
  have minus : PO X (some (.UnaryOp .USub (.Constant (.int 1) k p1) p2)) (tPart (tUn (rU fun i => .int (-i)) (tC (.int 1)))) := po_some (pe_un un_neg pe_int)
  refine wpAny_Slice (thn (po_none.run pins s1 σ H1 (fun o H2 => o = none ∧ H2 = H1) I1 ⟨rfl, rfl⟩) fun vl s2 ⟨l, H2, I2, pl, el, e2⟩ => ?_)
  subst el e2
  refine thn (po_none.run pins s2 σ H2 (fun o H3 => o = none ∧ H3 = H2) I2 ⟨rfl, rfl⟩) fun vu s3 ⟨u, H3, I3, pu, eu, e3⟩ => ?_
  subst eu e3
  refine thn (minus.run pins s3 σ H3 (fun o H4 => o = some (-1) ∧ H4 = H3) I3 ⟨1, rfl, -1, rfl, rfl, rfl⟩) fun vs s4 ⟨o, H4, I4, ps, eo, e4⟩ => ?_
  subst eo e4
  have I5 : Inv X pins σ H4 { s4 with heap := s4.heap.push { cls := .type "slice", data := .fields #[vl, vu, vs] } } := I4.kept (t' := s4.toks) fun b ob q => Heap.get?_push_of_some _ q
  obtain ⟨a1, rfl, h1⟩ := IsPart.raw pl
  obtain ⟨a2, rfl, h2⟩ := IsPart.raw pu
  obtain ⟨a3, rfl, h3⟩ := IsPart.raw ps
  obtain rfl : a1 = none := Option.map_eq_none_iff.mp h1
  obtain rfl : a2 = none := Option.map_eq_none_iff.mp h2
  obtain ⟨⟨m, uk⟩, rfl, rfl⟩ := Option.map_eq_some_iff.mp h3
  refine tail_any (ops := [.ref s4.heap.objs.size, .str z t]) (typeIs_str _ _ _) PySem.F.slot_str_getitem.lookup (wpAny_getItem_str_slice (l := none) (u := none) (st := some (-1, uk)) ⟨_, Heap.get?_push_size _ rfl, rfl, rfl⟩ rfl (post_val_or_str ⟨?_, fun t' c => ?_⟩)) (by with_unfolding_all rfl)
  · show (Txt.sliceBy z none none (-1, uk)).length ≤ _
    rw [step_rev_len]
    exact few
  · show EP X pins σ Q (.str (Txt.sliceBy z none none (-1, uk)) t') _
    rw [rev_by]
    exact ⟨.str (revS z), H4, I5.tok _, ⟨_, rfl⟩, q⟩
end
end Re

/-! {(a, b): v, ..}: a dict written out whose keys are tuples. -/
namespace Ry
open PySem PySem.Spec PyProof.Rows L2 Rd
section
variable {X : Cx} {pins : List (Addr × Obj)} {σ : L2.St} {H : Hp} {s : Shared} {a : Addr} {A : Around} {E : Value → Shared → Prop}
/-- d[y] = v by the dict's own store, y a tuple -/
theorem dset {kvs : List (List Key × V)} {k : List Key} {b : Addr} {v : V} {r : Value} {Q : Unit → Shared → Prop} (hu : A.units + 1 < cLine) (I : Inv X pins σ H s) (e : H a = some (.dT kvs)) (eb : H b = some (.tup (k.map kV))) (l : kvs.length < sizeLine) (rv : L2.RelV v r)
    (h : ∀ s', Inv X pins σ (upd H a (.dT (putK kvs k v))) s' → Q () s') : wpAny (model X.prog X.w) A (dictSet a (.ref b) r) Q E s := by
  obtain ⟨z, hd, xs, rel, dd⟩ := dt_of I.hok e
  have hz : xs.length ≤ sizeLine := by rw [← Paired.length rel]; exact z
  have hl : (putK kvs k v).length ≤ sizeLine := by have := length_putK kvs k v; omega
  refine wpAny_dictSet_heap (hsz := hz) (show A.units < cLine by omega) (key_of I.hok eb) dd fun h' dd' hs => h _ ?_
  obtain ⟨q, es, ep, hq, h2, h3, h4, _, h5⟩ := dd'
  refine d_write I (by rw [e]; exact True.intro) hs ⟨q, hq⟩ ⟨hl, hd, _, (rel.put k eb rv).keeps fun c ys ec => ?_, q, es, ep, hq, h2, h3, h4, h5⟩
  rw [upd_ne (ne_of ec e (fun z => nomatch z))]
  exact ec
/-- what a display puts down, pair by pair -/
def putAll (kvs more : List (List Key × V)) : List (List Key × V) := more.foldl (fun acc kv => putK acc kv.1 kv.2) kvs
theorem putAll_len : ∀ (more kvs : List (List Key × V)), (putAll kvs more).length ≤ kvs.length + more.length
  | [], kvs => by show kvs.length ≤ kvs.length + 0; omega
  | p :: r, kvs => by
    have h1 := putAll_len r (putK kvs p.1 p.2)
    have h2 := length_putK kvs p.1 p.2
    show (putAll (putK kvs p.1 p.2) r).length ≤ _
    rw [List.length_cons]; omega
/-- the pairs (a tuple's address, a value) with the tuples' keys -/
def KeyAt (H : Hp) (p : V × V) (kv : List Key × V) : Prop := ∃ b, p.1 = .ref b ∧ H b = some (.tup (kv.1.map kV)) ∧ p.2 = kv.2
theorem dsets {a : Addr} : ∀ (more : List (List Key × V)) {ps : List (V × V)} {vs : List (Value × Value)} {kvs : List (List Key × V)} {H : Hp} {s : Shared} {Q : PUnit → Shared → Prop}, A.units + 1 < cLine → Inv X pins σ H s → H a = some (.dT kvs) → VV ps vs → Paired (KeyAt H) ps more →
    kvs.length + more.length ≤ 1000 → (∀ s', Inv X pins σ (upd H a (.dT (putAll kvs more))) s' → Q PUnit.unit s') →
    wpAny (model X.prog X.w) A (forIn vs PUnit.unit fun (x : Value × Value) (_ : PUnit) => (do dictSet a x.1 x.2; pure (ForInStep.yield PUnit.unit) : Sem (ForInStep PUnit))) Q E s
  | [], ps, vs, kvs, H, s, Q, hu, I, e, r, p, hl, h => by
    cases p
    cases r
    rw [List.forIn_nil]
    refine wpAny_pure (h s ?_)
    have : upd H a (.dT (putAll kvs [])) = H := by
      funext b
      by_cases c : b = a
      · rw [c, upd_same, e]; rfl
      · rw [upd_ne c]
    rw [this]
    exact I
  | kv :: more, ps, vs, kvs, H, s, Q, hu, I, e, r, p, hl, h => by
    cases p with
    | @cons q _ ps' _ k p' =>
      cases r with
      | @cons _ u _ us ru r' =>
        obtain ⟨b, e1, e2, e3⟩ := k
        obtain ⟨ku, vu⟩ := u
        have ra : L2.RelV (.ref b) ku := by rw [← e1]; exact ru.1
        cases (show ku = Value.ref b from ra)
        have rv : L2.RelV kv.2 vu := by rw [← e3]; exact ru.2
        rw [List.length_cons] at hl
        rw [List.forIn_cons]
        refine wpAny_bind (wpAny_bind (dset hu I e e2 (by rw [sizeLine_eq]; omega) rv fun s1 I1 => wpAny_pure ?_))
        have keep : ∀ {ps : List (V × V)} {more : List (List Key × V)}, Paired (KeyAt H) ps more → Paired (KeyAt (upd H a (.dT (putK kvs kv.1 kv.2)))) ps more := fun x => by
          induction x with
          | nil => exact .nil
          | cons z _ ih =>
            obtain ⟨b, e1, e2, e3⟩ := z
            exact .cons ⟨b, e1, by rw [upd_ne (ne_of e2 e (fun z => nomatch z))]; exact e2, e3⟩ ih
        refine dsets more hu I1 upd_same r' (keep p') (by have := length_putK kvs kv.1 kv.2; omega) fun s2 I2 => h s2 ?_
        rw [upd_upd] at I2
        exact I2
end
/-- {k: v, ..}, the keys tuples of ints and texts; the new dict stands empty while the pairs are made -/
def tDispT (trs : List (TE × TE)) : TE := fun σ H Q => ∀ p, H p = none → tPairs trs σ (upd H p (.dT [])) fun ps H2 => H2 p = some (.dT []) ∧ ∃ kvs : List (List Key × V), Paired (KeyAt H2) ps kvs ∧ kvs.length ≤ 15 ∧ Q (.ref p) (upd H2 p (.dT (putAll [] kvs)))
theorem pe_dispT {X : Cx} {pos : Pos} {keys : List (Option Expr)} {values : List Expr} {trs : List (TE × TE)} (hu : X.A.units + 1 < cLine) (h : PPs X pos keys values trs) (hall : keys.all (·.isSome) = true) (hl : keys.length = values.length) (h0 : keys ≠ [])
    (h15 : keys.length ≤ 15) : PE X (.Dict keys values pos) (tDispT trs) := by
  refine ⟨fun pins s σ H Q I q => ?_⟩
  have hn := I.hok.fresh (Nat.le_refl s.heap.objs.size)
  have I1 := I.laid (a := s.heap.objs.size) (o := .dT []) (h' := s.heap.push { cls := .type "dict", data := .dict #[] }) (t' := s.toks) (fun _ _ q => Heap.get?_push_of_some _ q) (Nat.le_refl _) (dt_empty s.heap I.big)
  have hp := pairTrees_length keys values X.env pos hall hl
  have hne : pairTrees keys values X.env pos ≠ [] := fun c => by
    rw [c] at hp
    exact h0 (List.length_eq_zero_iff.mp hp.symm)
  rw [arm_eval_Dict, zip_pairTrees keys values X.env pos hall hl, dictDisplay_pairs _ hne (by omega)]
  refine wpAny_bind (wpAny_standAt (wpAny_bind ?_))
  unfold subDict
  refine wpAny_bind (wpAny_alloc ?_)
  refine wpAny_bind (wpAny_holding ?_)
  rw [if_pos (by omega)]
  refine wpAny_bind (thn (h.run pins _ σ _ _ I1 (q _ hn)) fun ws s2 ⟨ps, H2, I2, rel, e, kvs, pr, lk, q2⟩ => ?_)
  refine wpAny_holding (wpAny_bind (dsets kvs hu I2 e rel pr (by rw [List.length_nil]; omega) fun s3 I3 => wpAny_pure (wpAny_pure (wpAny_pure ⟨.ref s.heap.objs.size, _, I3, rfl, q2⟩))))
theorem dispT {trs : List (TE × TE)} {σ : L2.St} {H : Hp} {Q : VK} (h : ∀ (p : Addr) (G : Hp), H p = none → G p = some (.dT []) → Same H G → tPairs trs σ G fun ps H2 => H2 p = some (.dT []) ∧ ∃ kvs : List (List Key × V), Paired (KeyAt H2) ps kvs ∧ kvs.length ≤ 15 ∧
    ∀ G2 : Hp, G2 p = some (.dT (putAll [] kvs)) → (∀ b, b ≠ p → G2 b = H2 b) → Q (.ref p) G2) : tDispT trs σ H Q := fun p hp => by
  have key := h p _ hp upd_same (same_upd hp)
  have mono : ∀ {trs : List (TE × TE)} {σ : L2.St} {H : Hp} {A B : List (V × V) → Hp → Prop}, A = B → tPairs trs σ H A → tPairs trs σ H B := fun e h => e ▸ h
  refine mono ?_ key
  funext ps H2
  refine propext ⟨fun ⟨a, kvs, b, c, d⟩ => ⟨a, kvs, b, c, d _ upd_same fun b hb => upd_ne hb⟩, fun ⟨a, kvs, b, c, d⟩ => ⟨a, kvs, b, c, fun G2 g off => ?_⟩⟩
  have e : G2 = upd H2 p (.dT (putAll [] kvs)) := by
    funext x
    by_cases q : x = p
    · rw [q, g, upd_same]
    · rw [off x q, upd_ne q]
  rw [e]
  exact d
/-- what a comprehension within a comprehension walks -/
theorem pi_listK {X : Cx} {K : PySem.W.Frag} {tg l : Expr} {tl : TE} (e : X.K = K) (hl : PE X l tl) : PI X tg l (iList K tl) := e ▸ pi_list hl
theorem pi_tupK {X : Cx} {K : PySem.W.Frag} {tg l : Expr} {tl : TE} (e : X.K = K) (hl : PE X l tl) : PI X tg l (iTup K tl) := e ▸ pi_tup hl
/-- a join within a comprehension -/
def joinR (K : PySem.W.Frag) : V → List V → Hp → VK → Prop := fun x xs H Q => ∃ a p, ∃ ys : List Str, x = .str a ∧ xs = [.ref p] ∧ (SqL K H p (ys.map V.str) ∨ SqT K H p (ys.map V.str)) ∧
      (ys.map (·.length)).sum + ys.length * a.length ≤ 16777216 ∧ Q (.str (Txt.join a ys)) H
theorem pe_joinK {X : Cx} {o e : Expr} {to te : TE} {apos pos : Pos} (ho : PE X o to) (he : PE X e te) (hs : starEach [e] X.env = [(false, eval e X.env)] := by rfl) (hbase : attributeBase o "join" X.env (eval o X.env) = eval o X.env := by rfl) (hline : (apos.endLine == pos.line) = true := by rfl) :
    PE X (.Call (.Attribute o "join" apos) [e] [] pos) (tM1 (joinR X.K) to te) := pe_join ho he hs hbase hline
theorem joinS {K : PySem.W.Frag} {H : Hp} {a : Str} {p : Addr} {ys : List Str} {Q : VK} (hp : SqL K H p (ys.map V.str) ∨ SqT K H p (ys.map V.str)) (hz : (ys.map (·.length)).sum + ys.length * a.length ≤ 16777216) (h : Q (.str (Txt.join a ys)) H) : joinR K (.str a) [.ref p] H Q := ⟨a, p, ys, rfl, rfl, hp, hz, h⟩
/-- dict(xs) of a list of pairs -/
def rDictP (K : PySem.W.Frag) : List V → Hp → VK → Prop := fun xs H Q => ∃ (a : Addr) (ps : List Addr) (kvs : List (Key × V)), xs = [.ref a] ∧ SqL K H a (ps.map V.ref) ∧ Paired (fun p kv => SqT K H p [kV kv.1, kv.2]) ps kvs ∧ ∀ p, H p = none → Q (.ref p) (upd H p (.dK (mergeK [] kvs)))
theorem c_dictP {X : Cx} (h : X.calm = true) : CallR X (.type "dict") (rDictP X.K) := call_dictP h
theorem dictP {K : PySem.W.Frag} {H : Hp} {a : Addr} {ps : List Addr} {kvs : List (Key × V)} {Q : VK} (h : SqL K H a (ps.map V.ref)) (hp : Paired (fun p kv => SqT K H p [kV kv.1, kv.2]) ps kvs) (q : ∀ (p : Addr) (G : Hp), H p = none → G p = some (.dK (mergeK [] kvs)) → Same H G → Q (.ref p) G) : rDictP K [.ref a] H Q :=
  ⟨a, ps, kvs, rfl, h, hp, fun p hp => q p _ hp upd_same (same_upd hp)⟩
end Ry

/-! Dicts whose keys are pairs of a text and a tuple of ints and texts. -/
namespace Bn
open PySem PySem.Spec PyProof.Rows L2
open Sem (wp)
abbrev NK := Str × List Key
section
variable {P : Program} {w : World}
/-- the pair at a -/
def IsPr (P : Program) (w : World) (h : Heap) (k : NK) (a : Addr) : Prop := ∃ (o : Obj) (t : Tok) (b : Addr) (n : Nat), h.get? a = some o ∧ o.cls = .type "tuple" ∧ o.data = .seq #[.str k.1 t, .ref b] n ∧ IsTupleKey (mixKind P w) h k.2 b
theorem IsPr.ty {s : Shared} {k : NK} {a : Addr} (x : IsPr P w s.heap k a) : s.TypeIs (.ref a) "tuple" := let ⟨o, _, _, _, ho, hc, _⟩ := x; ⟨o, ho, hc⟩
theorem IsPr.inj {h : Heap} {a : Addr} {x y : NK} (hx : IsPr P w h x a) (hy : IsPr P w h y a) : x = y := by
  obtain ⟨o, t, b, n, ho, _, hd, hi⟩ := hx
  obtain ⟨o', t', b', n', ho', _, hd', hi'⟩ := hy
  rw [ho] at ho'
  cases ho'
  rw [hd] at hd'
  injection hd' with e _
  have e := congrArg Array.toList e
  simp only [List.cons.injEq, Value.str.injEq, Value.ref.injEq] at e
  obtain ⟨⟨e1, _⟩, e2, _⟩ := e
  subst e2
  exact Prod.ext e1 (hi.inj hi')
theorem IsPr.kept {h h' : Heap} {k : NK} {a d : Addr} {o : Obj} {es : Array DictEntry} {ep : Nat} (x : IsPr P w h k a) (ho : h.get? d = some o) (hd : o.data = .dict es ep) (hs : Heap.SameBut d h h') : IsPr P w h' k a := by
  obtain ⟨q, t, b, n, hq, hc, hq2, hi⟩ := x
  have ne : a ≠ d := by
    rintro rfl
    rw [ho] at hq
    cases hq
    rw [hd] at hq2
    cases hq2
  exact ⟨q, t, b, n, (hs.2 a ne).trans hq, hc, hq2, hi.keeps ho hd hs⟩
def strH (w : World) (x : Str) : Int := keyH w (.inr x)
def hashPr (P : Program) (w : World) (k : NK) : Int := reduceHash (Builtin.Tuple.tupleHashOf [(mixKind P w).hash (.inr k.1), tupleKeyHash (mixKind P w) k.2])
variable {A : Around} {E : Value → Shared → Prop} {s : Shared}
theorem is_str (x : Str) (t : Tok) : (mixKind P w).is (.inr x) (.str x t) = true := by
  show keyIs (.inr x) (.str x t) = true
  simp [keyIs, Value.isStr, Value.isStrOf]
theorem hash_run {k : NK} {a : Addr} {Q : Int → Shared → Prop} (hu : A.units + 8 < cLine) (hk : IsPr P w s.heap k a) (h : Q (hashPr P w k) { s with toks := s.toks + (k.2.length + 3) }) : wpAny (model P w) A (pyHash (.ref a)) Q E s := by
  have hT := hk.ty
  obtain ⟨o, t, b, n, ho, _, hd, hi⟩ := hk
  unfold pyHash
  first | unfold pyHashByItsType | skip
  first | refine wpAny_bind (wpAny_cRoomFor_or (.inr (show A.units < cLine by omega)) ?_) | skip
  refine wpAny_bind (wpAny_specialOf hT F.slot_tuple_hash.lookup ?_)
  show wpAny _ _ (if (some (Value.builtin "tuple.__hash__") == some Value.none) = true then _ else _) Q E s
  rw [if_neg (by rw [beq_builtin_none]; exact Bool.false_ne_true)]
  refine wpAny_bind (wpAny_specialOf hT F.slot_tuple_hash.lookup ?_)
  show wpAny _ _ (callSpecialIfBoundUnlessNone? (.ref a) "__hash__" _ >>= _) Q E s
  refine wpAny_bind (wpAny_callSpecialIfBoundUnlessNone?_slot hT F.slot_tuple_hash (wpAny_call_entry F.slot_tuple_hash hT F.entry_tuple_hash ?_ (F.args_tuple_hash_1 _)))
  show wpAny _ _ (Builtin.Tuple.tupleItemsOf (.ref a) >>= _) _ _ s
  refine wpAny_bind (wpAny_tupleItemsOf ho hd ?_)
  refine wpAny_bind ?_
  rw [← Array.forIn_toList]
  refine wpAny_forIn_list _
    (fun rest (c : Array Int) s' => (rest = [.str k.1 t, .ref b] ∧ c.toList = [] ∧ s' = s) ∨ (rest = [.ref b] ∧ c.toList = [(mixKind P w).hash (.inr k.1)] ∧ s' = { s with toks := s.toks + 1 }) ∨
      (rest = [] ∧ c.toList = [(mixKind P w).hash (.inr k.1), tupleKeyHash (mixKind P w) k.2] ∧ s' = { s with toks := s.toks + (k.2.length + 2) }))
    _ ?_ ?_ _ _ (.inl ⟨rfl, rfl, rfl⟩)
  · rintro x rest c s' (⟨e, ec, rfl⟩ | ⟨e, ec, rfl⟩ | ⟨e, _⟩)
    · cases e
      refine wpAny_bind ((mixKind P w).pyHash (is_str k.1 t) ?_)
      have fin : (c.push ((mixKind P w).hash (.inr k.1))).toList = [(mixKind P w).hash (.inr k.1)] := by simp [ec]
      first
        | exact wpAny_pure (.inr (.inl ⟨rfl, fin, rfl⟩))
        | exact wpAny_bind (wpAny_pure (wpAny_pure (.inr (.inl ⟨rfl, fin, rfl⟩))))
    · cases e
      refine wpAny_bind (wpAny_pyHash_tuple (by first | (show A.units < cLine; omega) | (show A.units + 1 < cLine; omega) | (simp [Around.under, Code.cUnits, Code.frames, Code.isFrame]; omega)) hi ?_)
      have fin : (c.push (tupleKeyHash (mixKind P w) k.2)).toList = [(mixKind P w).hash (.inr k.1), tupleKeyHash (mixKind P w) k.2] := by simp [ec]
      have es : ({ s with toks := s.toks + 1 + (k.2.length + 1) } : Shared) = { s with toks := s.toks + (k.2.length + 2) } := by rw [show s.toks + 1 + (k.2.length + 1) = s.toks + (k.2.length + 2) by omega]
      first
        | exact wpAny_pure (.inr (.inr ⟨rfl, fin, es⟩))
        | exact wpAny_bind (wpAny_pure (wpAny_pure (.inr (.inr ⟨rfl, fin, es⟩))))
    · cases e
  · rintro c s' (⟨e, _⟩ | ⟨e, _⟩ | ⟨_, ec, rfl⟩)
    · cases e
    · cases e
    · show wpAny _ _ (retInt (Builtin.Tuple.tupleHashOf c.toList)) _ _ _
      rw [ec]
      have h' : Q (hashPr P w k) { s with toks := s.toks + (k.2.length + 2) + 1 } := by
        rw [show s.toks + (k.2.length + 2) + 1 = s.toks + (k.2.length + 3) by omega]
        exact h
      unfold hashPr reduceHash at h'
      refine wpAny_ret_mkInt ?_
      show wpAny _ _ (if (decide (-(2 : Int) ^ 63 ≤ Builtin.Tuple.tupleHashOf [(mixKind P w).hash (.inr k.1), tupleKeyHash (mixKind P w) k.2]) && decide (Builtin.Tuple.tupleHashOf [(mixKind P w).hash (.inr k.1), tupleKeyHash (mixKind P w) k.2] < 2 ^ 63)) = true then _ else _) Q E _
      generalize Builtin.Tuple.tupleHashOf [(mixKind P w).hash (.inr k.1), tupleKeyHash (mixKind P w) k.2] = z at h' ⊢
      by_cases hr : (decide (-(2 : Int) ^ 63 ≤ z) && decide (z < 2 ^ 63)) = true
      · rw [if_pos hr]
        rw [if_pos hr] at h'
        exact wpAny_pure h'
      · rw [if_neg hr]
        rw [if_neg hr] at h'
        exact wpAny_bind (wpAny_rule (wpAny_pure h'))
theorem eq_tree {x y : NK} {a b : Addr} {R : Fin → Shared → Prop} (hu : A.units + 4 < cLine) (hx : IsPr P w s.heap x a) (hy : IsPr P w s.heap y b) (h : R (.done (.ret (.bool (decide (x = y))))) s) :
    wpAny (model P w) A (Builtin.«tuple.__eq__» ⟨[.ref a, .ref b], []⟩) R E s := by
  have hTb := hy.ty
  obtain ⟨oa, ta, ra, na, hoa, _, hda, hia⟩ := hx
  obtain ⟨ob, tb, rb, nb, hob, _, hdb, hib⟩ := hy
  show wpAny _ _ (isInstance (.ref b) (.type "tuple") >>= _) _ _ s
  refine wpAny_bind (wpAny_isInstance hTb isSubtype_tuple_tuple ?_)
  simp only [Bool.not_true, Bool.false_eq_true, if_false]
  refine wpAny_bind (wpAny_tupleItemsOf hoa hda ?_)
  refine wpAny_bind (wpAny_tupleItemsOf hob hdb ?_)
  refine wpAny_bind ?_
  have split : decide (x = y) = (decide (x.1 = y.1) && decide (x.2 = y.2)) := by
    rw [Bool.eq_iff_iff, Bool.and_eq_true, decide_eq_true_iff, decide_eq_true_iff, decide_eq_true_iff, Prod.ext_iff]
  refine wpAny_forIn_list _
    (fun rest r s' => r.1 = none ∧ s' = s ∧ ((rest = [(Value.str x.1 ta, Value.str y.1 tb), (.ref ra, .ref rb)]) ∨ (rest = [(.ref ra, .ref rb)] ∧ x.1 = y.1) ∨ (rest = [] ∧ x.1 = y.1 ∧ x.2 = y.2)))
    _ ?_ ?_ _ _ ⟨rfl, rfl, .inl rfl⟩
  · rintro ⟨u, v⟩ rest r s' ⟨hr, rfl, e | ⟨e, e1⟩ | ⟨e, _⟩⟩
    · cases e
      refine wpAny_bind ((mixKind P w).eqBool (a := .inr x.1) (b := .inr y.1) (is_str _ _) (is_str _ _) ?_)
      have de : decide ((Sum.inr x.1 : Key) = .inr y.1) = decide (x.1 = y.1) := by rw [decide_eq_decide]; exact ⟨fun q => Sum.inr.inj q, fun q => congrArg _ q⟩
      rw [de]
      by_cases hk : x.1 = y.1
      · rw [decide_eq_true hk]
        simp only [Bool.not_true, Bool.false_eq_true, if_false]
        exact wpAny_pure ⟨rfl, rfl, .inr (.inl ⟨by first | rfl | trivial, hk⟩)⟩
      · rw [decide_eq_false hk]
        simp only [Bool.not_false, if_true]
        rw [split, decide_eq_false hk, Bool.false_and] at h
        exact wpAny_bind (wpAny_pure (wpAny_pure (wpAny_pure h)))
    · cases e
      refine wpAny_bind (wpAny_eqBool_tuple (by first | (show A.units < cLine; omega) | (show A.units + 1 < cLine; omega) | (simp [Around.under, Code.cUnits, Code.frames, Code.isFrame]; omega)) hia hib ?_)
      by_cases hk : x.2 = y.2
      · rw [decide_eq_true hk]
        simp only [Bool.not_true, Bool.false_eq_true, if_false]
        exact wpAny_pure ⟨rfl, rfl, .inr (.inr ⟨by first | rfl | trivial, e1, hk⟩)⟩
      · rw [decide_eq_false hk]
        simp only [Bool.not_false, if_true]
        rw [split, decide_eq_false hk, Bool.and_false] at h
        exact wpAny_bind (wpAny_pure (wpAny_pure (wpAny_pure h)))
    · cases e
  · rintro ⟨r1, r2⟩ s' ⟨hr, rfl, e | ⟨e, _⟩ | ⟨_, e1, e2⟩⟩
    · cases e
    · cases e
    · have hr : r1 = none := hr
      subst hr
      rw [split, decide_eq_true e1, decide_eq_true e2] at h
      exact wpAny_pure h
theorem eq_run {x y : NK} {a b : Addr} {Q : Bool → Shared → Prop} (hu : A.units + 8 < cLine) (hx : IsPr P w s.heap x a) (hy : IsPr P w s.heap y b) (h : Q (decide (x = y)) s) : wpAny (model P w) A (eqBool (.ref a) (.ref b)) Q E s := by
  unfold eqBool
  try with_reducible refine wpAny_holding ?_
  show wpAny _ _ (if (Value.ref a == Value.ref b) = true then _ else _) Q E s
  by_cases hab : (Value.ref a == Value.ref b) = true
  · rw [if_pos hab]
    have e : a = b := by have := eq_of_beq hab; injection this
    subst e
    obtain rfl := hx.inj hy
    exact wpAny_bind (wpAny_rule (wpAny_pure (by simpa using h)))
  · rw [if_neg hab]
    refine wpAny_bind (wpAny_richCompare_same_room (op := .Eq) hx.ty hy.ty F.slot_tuple_eq (wpAny_call_entry F.slot_tuple_eq hx.ty F.entry_tuple_eq (eq_tree ?_ hx hy ⟨_, rfl, (fun e => nomatch e), wpAny_truthy_bool h⟩) (F.args_tuple_eq_2 _ _)) (by omega))
    first | (show A.units + 4 < cLine; omega) | (show A.units + 1 + 4 < cLine; omega) | (show A.units + 2 + 4 < cLine; omega) | (simp [Around.under, Code.cUnits, Code.frames, Code.isFrame]; omega)
theorem quiet_tup {n : Nat} {ks : List Key} {a : Addr} {Q : Bool → Shared → Prop} (hk : IsTupleKey (mixKind P w) s.heap ks a) (h : Q true s) : wpAny (model P w) A (eqIsQuiet (n + 1) (.ref a)) Q E s := by
  have hT := hk.typeIs
  obtain ⟨o, items, m, ho, _, hd, hi⟩ := hk
  unfold eqIsQuiet
  refine wpAny_bind (wpAny_specialOf hT F.slot_tuple_eq.lookup ?_)
  show wpAny _ _ (isInstance (.ref a) (.type "tuple") >>= _) _ _ s
  refine wpAny_bind (wpAny_isInstance hT isSubtype_tuple_tuple ?_)
  simp only [Bool.not_true, Bool.false_eq_true, if_false]
  refine wpAny_bind (wpAny_seqItems ho hd ?_)
  refine wpAny_bind ?_
  show wpAny _ _ (forIn items _ _) _ _ s
  rw [← Array.forIn_toList]
  refine wpAny_forIn_list _ (fun rest r s' => r.1 = none ∧ s' = s ∧ ∀ v ∈ rest, carriedByValue v = true) _ ?_ ?_ _ _ ⟨rfl, rfl, hi.byValue⟩
  · rintro v rest r s' ⟨hr, rfl, hall⟩
    rw [eqIsQuiet_byValue _ (hall v List.mem_cons_self)]
    refine wpAny_bind (wpAny_pure ?_)
    simp only [Bool.not_true, Bool.false_eq_true, if_false]
    exact wpAny_pure ⟨rfl, rfl, fun u hu' => hall u (List.mem_cons_of_mem _ hu')⟩
  · rintro ⟨r1, r2⟩ s' ⟨hr, rfl, _⟩
    have hr : r1 = none := hr
    subst hr
    exact wpAny_pure h
theorem quiet_run {k : NK} {a : Addr} {Q : Bool → Shared → Prop} (hk : IsPr P w s.heap k a) (h : Q true s) : wpAny (model P w) A (eqIsQuiet 8 (.ref a)) Q E s := by
  have hT := hk.ty
  obtain ⟨o, t, b, m, ho, _, hd, hi⟩ := hk
  unfold eqIsQuiet
  refine wpAny_bind (wpAny_specialOf hT F.slot_tuple_eq.lookup ?_)
  show wpAny _ _ (isInstance (.ref a) (.type "tuple") >>= _) _ _ s
  refine wpAny_bind (wpAny_isInstance hT isSubtype_tuple_tuple ?_)
  simp only [Bool.not_true, Bool.false_eq_true, if_false]
  refine wpAny_bind (wpAny_seqItems ho hd ?_)
  refine wpAny_bind ?_
  show wpAny _ _ (forIn _ _ _) _ _ s
  rw [← Array.forIn_toList]
  refine wpAny_forIn_list _ (fun rest r s' => r.1 = none ∧ s' = s ∧ (rest = [.str k.1 t, .ref b] ∨ rest = [.ref b] ∨ rest = [])) _ ?_ ?_ _ _ ⟨rfl, rfl, .inl rfl⟩
  · rintro v rest r s' ⟨hr, rfl, e | e | e⟩
    · cases e
      rw [eqIsQuiet_byValue _ (by rfl : carriedByValue (.str k.1 t) = true)]
      refine wpAny_bind (wpAny_pure ?_)
      simp only [Bool.not_true, Bool.false_eq_true, if_false]
      exact wpAny_pure ⟨rfl, rfl, .inr (.inl (by first | rfl | trivial))⟩
    · cases e
      refine wpAny_bind (quiet_tup hi ?_)
      simp only [Bool.not_true, Bool.false_eq_true, if_false]
      exact wpAny_pure ⟨rfl, rfl, .inr (.inr (by first | rfl | trivial))⟩
    · cases e
  · rintro ⟨r1, r2⟩ s' ⟨hr, rfl, _⟩
    have hr : r1 = none := hr
    subst hr
    exact wpAny_pure h
end
def prKind (P : Program) (w : World) : HeapKind P w NK where
  is := IsPr P w
  hash := hashPr P w
  draws := fun k => k.2.length + 3
  room := fun A => A.units + 8 < cLine
  inj := fun hx hy => hx.inj hy
  keeps := fun x ho hd hs => x.kept ho hd hs
  pyHash := fun hu hk h => hash_run hu hk h
  eqBool := fun hu hx hy h => eq_run hu hx hy h
  quiet := fun hk h => quiet_run hk h
end Bn

/-! Dicts keyed by pairs, seen from the abstract heap: made, asked, read, written. -/
namespace Bo
open PySem PySem.Spec PyProof.Rows L2 Bn
abbrev Ent := NK × Addr × V
def EntR (p : Ent) (q : NK × Addr × Value) : Prop := p.1 = q.1 ∧ p.2.1 = q.2.1 ∧ RelV p.2.2 q.2.2
/-- the dict at a, by its entries -/
def Dn (P : Program) (w : World) (a : Addr) (es : List Ent) : HO := .ext fun h => es.length ≤ sizeLine ∧ (a == sysModules) = false ∧ ∃ xs : List (NK × Addr × Value), Paired EntR es xs ∧
  ∃ o el ep, h.get? a = some o ∧ o.ExactDict ∧ o.data = .dict el ep ∧ el.toList = xs.map (entryOfKey (prKind P w)) ∧ (xs.map (·.1)).Nodup
theorem dn_ok {P : Program} {w : World} {H : Hp} {h : Heap} {a : Addr} {es : List Ent} (z : es.length ≤ sizeLine) (sm : (a == sysModules) = false) {xs : List (NK × Addr × Value)} (pr : Paired EntR es xs) {o : Obj} {el : Array DictEntry} {ep : Nat} (h1 : h.get? a = some o) (h2 : o.ExactDict) (h3 : o.data = .dict el ep) (h4 : el.toList = xs.map (entryOfKey (prKind P w))) (h5 : (xs.map (·.1)).Nodup) : ObjOk P w H h a (Dn P w a es) :=
  ⟨⟨z, sm, xs, pr, o, el, ep, h1, h2, h3, h4, h5⟩, ⟨o, h1⟩, fun h1 h2 ⟨z, sm, xs, pr, o, el, ep, e, r⟩ k => ⟨z, sm, xs, pr, o, el, ep, k o e, r⟩⟩
theorem dn_at {P : Program} {w : World} {H : Hp} {h : Heap} {a : Addr} {es : List Ent} (ok : HOk P w H h) (e : H a = some (Dn P w a es)) : es.length ≤ sizeLine ∧ (a == sysModules) = false ∧ ∃ xs : List (NK × Addr × Value), Paired EntR es xs ∧
    ∃ o el ep, h.get? a = some o ∧ o.ExactDict ∧ o.data = .dict el ep ∧ el.toList = xs.map (entryOfKey (prKind P w)) ∧ (xs.map (·.1)).Nodup :=
  let x : ObjOk P w H h a (Dn P w a es) := ok a _ e
  x.1
/-- the pair at a, in the abstract heap -/
def KeyT (H : Hp) (k : NK) (a : Addr) : Prop := ∃ b, H a = some (.tup [.str k.1, .ref b]) ∧ H b = some (.tup (k.2.map kV))
theorem KeyT.keep {H H' : Hp} {k : NK} {a : Addr} (s : ∀ b xs, H b = some (.tup xs) → H' b = some (.tup xs)) (h : KeyT H k a) : KeyT H' k a := let ⟨b, h1, h2⟩ := h; ⟨b, s _ _ h1, s _ _ h2⟩
theorem KeyT.is {P : Program} {w : World} {H : Hp} {h : Heap} {k : NK} {a : Addr} (ok : HOk P w H h) (x : KeyT H k a) : IsPr P w h k a := by
  obtain ⟨b, h1, h2⟩ := x
  obtain ⟨_, its, r, o, e1, e2, n, e3⟩ := (show ObjOk P w H h a (.tup [.str k.1, .ref b]) from ok a _ h1)
  match its, r with
  | [u, v], .cons r1 (.cons r2 .nil) =>
    obtain ⟨t, rfl⟩ := (show ∃ t, u = Value.str k.1 t from r1)
    cases (show v = Value.ref b from r2)
    exact ⟨o, t, b, n, e1, e2, e3, key_of ok h2⟩
/-- the dict at a, and its keys -/
def Nd (P : Program) (w : World) (H : Hp) (a : Addr) (es : List Ent) : Prop := H a = some (Dn P w a es) ∧ ∀ e ∈ es, KeyT H e.1 e.2.1
theorem not_tup {P : Program} {w : World} {a : Addr} {es : List Ent} {xs : List V} : Dn P w a es ≠ .tup xs := fun z => by
  have z' : HO.ext _ = HO.tup xs := z
  cases z'
theorem Nd.keep {P : Program} {w : World} {H H' : Hp} {a : Addr} {es : List Ent} (h : Nd P w H a es) (k : H' a = H a) (s : ∀ b xs, H b = some (.tup xs) → H' b = some (.tup xs)) : Nd P w H' a es := ⟨k.trans h.1, fun e m => (h.2 e m).keep s⟩
theorem Nd.same {P : Program} {w : World} {H H' : Hp} {a : Addr} {es : List Ent} (s : Same H H') (h : Nd P w H a es) : Nd P w H' a es := ⟨s _ _ h.1, fun e m => (h.2 e m).keep fun b xs => s b _⟩
theorem paired_mem {es : List Ent} {xs : List (NK × Addr × Value)} (p : Paired EntR es xs) : ∀ x ∈ xs, ∃ e ∈ es, EntR e x := by
  induction p with
  | nil => exact fun x m => absurd m List.not_mem_nil
  | cons h _ ih =>
    intro x m
    rcases List.mem_cons.mp m with rfl | m
    · exact ⟨_, List.mem_cons_self .., h⟩
    · obtain ⟨e, me, q⟩ := ih x m
      exact ⟨e, List.mem_cons_of_mem _ me, q⟩
theorem Nd.dict {P : Program} {w : World} {H : Hp} {h : Heap} {a : Addr} {es : List Ent} (ok : HOk P w H h) (d : Nd P w H a es) : es.length ≤ sizeLine ∧ (a == sysModules) = false ∧ ∃ xs, Paired EntR es xs ∧ h.DictOfH (prKind P w) a xs := by
  obtain ⟨z, sm, xs, pr, o, el, ep, h1, h2, h3, h4, h5⟩ := dn_at ok d.1
  refine ⟨z, sm, xs, pr, o, el, ep, h1, h2, h3, h4, fun x m => ?_, h5⟩
  obtain ⟨e, me, q1, q2, _⟩ := paired_mem pr x m
  have := (d.2 e me).is (w := w) ok
  rw [q1, q2] at this
  exact this
def valN (es : List Ent) (k : NK) : Option V := (es.find? fun e => decide (e.1 = k)).map (·.2.2)
theorem val_rel {es : List Ent} {xs : List (NK × Addr × Value)} (p : Paired EntR es xs) (k : NK) : RelO (valN es k) ((atKey xs k).map (·.2)) := by
  induction p with
  | nil => exact True.intro
  | @cons e x es xs h _ ih =>
    obtain ⟨h1, h2, h3⟩ := h
    unfold valN atKey
    rw [List.find?_cons, List.find?_cons, h1]
    by_cases c : x.1 = k
    · rw [decide_eq_true c]
      exact h3
    · rw [decide_eq_false c]
      exact ih
theorem val_none {es : List Ent} {k : NK} (h : k ∉ es.map (·.1)) : valN es k = none := by
  unfold valN
  rw [List.find?_eq_none.mpr fun e m q => h (List.mem_map.mpr ⟨e, m, of_decide_eq_true q⟩)]
  rfl
theorem val_some {es : List Ent} {k : NK} (h : k ∈ es.map (·.1)) : ∃ v, valN es k = some v := by
  obtain ⟨e, m, q⟩ := List.mem_map.mp h
  unfold valN
  cases z : es.find? fun e => decide (e.1 = k) with
  | none => exact absurd (decide_eq_true q) (List.find?_eq_none.mp z e m)
  | some e' => exact ⟨e'.2.2, rfl⟩
theorem u16 {k : Nat} {A : PySem.Around} (h : L2.Room k A) : A.units + 16 < PySem.cLine := by have := h.un; omega
def rSetN (P : Program) (w : World) : TSet := fun o i v H Q => ∃ (a ka : Addr) (k : NK) (es : List Ent), o = .ref a ∧ i = .ref ka ∧ KeyT H k ka ∧ Nd P w H a es ∧ k ∉ es.map (·.1) ∧ es.length < sizeLine ∧
  ∀ G : Hp, Nd P w G a (es ++ [(k, ka, v)]) → (∀ b, b ≠ a → G b = H b) → Q G
section
variable {X : Cx} {o i e value : Expr} {pos : Pos} {td ty tv : TE}
theorem set_nd (hu : X.A.units + 16 < cLine) : PSet X (rSetN X.prog X.w) := by
  intro pins s σ H o i v ov iv u Q I ro ri rv h
  obtain ⟨a, ka, k, es, rfl, rfl, hk, d, new, l, q⟩ := h
  cases (show ov = Value.ref a from ro)
  cases (show iv = Value.ref ka from ri)
  obtain ⟨z, sm, xs, pr, dd⟩ := d.dict I.hok
  have hz : xs.length ≤ sizeLine := by rw [← Paired.length pr]; exact z
  have no : atKey xs k = none := by
    have := val_rel pr k
    rw [val_none new] at this
    cases c : atKey xs k with
    | none => rfl
    | some p => rw [c] at this; exact this.elim
  refine wpAny_setItem_heap (hsz := hz) (show X.A.in1.units + 8 < cLine by show X.A.units + 1 + 8 < cLine; omega) (hk.is I.hok) dd fun h' dd' hs => ?_
  rw [storedH_new no] at dd'
  obtain ⟨ob, el, ep, hq, h2, h3, h4, _, h5⟩ := dd'
  have pr' : Paired EntR (es ++ [(k, ka, v)]) (xs ++ [(k, ka, u)]) := Paired.snoc pr ⟨rfl, rfl, rv⟩
  have mu : Mut (H a) := by rw [d.1]; exact True.intro
  refine ⟨_, d_write (ob := Dn X.prog X.w a (es ++ [(k, ka, v)])) I mu hs ⟨ob, hq⟩ (dn_ok (by rw [List.length_append, List.length_singleton]; omega) sm pr' hq h2 h3 h4 h5), q _ ⟨upd_same, fun e m => ?_⟩ fun b hb => upd_ne hb⟩
  have kt : ∀ b ys, H b = some (.tup ys) → upd H a (Dn X.prog X.w a (es ++ [(k, ka, v)])) b = some (.tup ys) := fun b ys eb => by rw [upd_ne (ne_of eb d.1 fun z => not_tup z.symm)]; exact eb
  rcases List.mem_append.mp m with m | m
  · exact (d.2 e m).keep kt
  · rw [List.mem_singleton.mp m]
    exact hk.keep kt
def tNNew (P : Program) (w : World) : TE := fun _ H Q => ∀ (p : Addr) (G : Hp), H p = none → Nd P w G p [] → Same H G → (∀ b, b ≠ p → G b = H b) → Q (.ref p) G
theorem pe_nnew : PE X (.Dict [] [] pos) (tNNew X.prog X.w) := ⟨fun pins s σ H Q I h =>
  wpAny_Dict_empty ⟨.ref s.heap.objs.size, _, I.laid (a := s.heap.objs.size) (o := Dn X.prog X.w s.heap.objs.size []) (t' := s.toks) (fun _ _ q => Heap.get?_push_of_some _ q) (Nat.le_refl _)
    (dn_ok (Nat.zero_le _) (beq_eq_false_iff_ne.mpr (Ne.symm (Nat.ne_of_lt I.big))) .nil (Heap.get?_push_size _ rfl) ⟨rfl, rfl, rfl⟩ rfl rfl List.nodup_nil), rfl,
    h _ _ (I.hok.fresh (Nat.le_refl _)) ⟨upd_same, fun e m => absurd m List.not_mem_nil⟩ (Rd.same_upd (I.hok.fresh (Nat.le_refl _))) fun b hb => upd_ne hb⟩⟩
def tNGet (P : Program) (w : World) (td ty : TE) : TE := fun σ H Q => td σ H fun x H1 => ty σ H1 fun y H2 => ∃ (a ka : Addr) (k : NK) (es : List Ent) (v : V), x = .ref a ∧ y = .ref ka ∧ KeyT H2 k ka ∧ Nd P w H2 a es ∧ valN es k = some v ∧ Q v H2
def hasK (es : List Ent) (k : NK) : Bool := es.any fun e => decide (e.1 = k)
theorem hasK_iff {es : List Ent} {k : NK} : hasK es k = true ↔ k ∈ es.map (·.1) := by
  unfold hasK
  rw [List.any_eq_true, List.mem_map]
  exact ⟨fun ⟨e, m, q⟩ => ⟨e, m, of_decide_eq_true q⟩, fun ⟨e, m, q⟩ => ⟨e, m, decide_eq_true q⟩⟩
def tNIn (P : Program) (w : World) (neg : Bool) (ty td : TE) : TE := fun σ H Q => ty σ H fun y H1 => td σ H1 fun x H2 => ∃ (a ka : Addr) (k : NK) (es : List Ent), x = .ref a ∧ y = .ref ka ∧ KeyT H2 k ka ∧ Nd P w H2 a es ∧ Q (.bl (if neg then !hasK es k else hasK es k)) H2
theorem any_eq {es : List Ent} {xs : List (NK × Addr × Value)} (p : Paired EntR es xs) (k : NK) : (atKey xs k).isSome = hasK es k := by
  have r := (val_rel p k).isSome_eq
  rw [Option.isSome_map] at r
  rw [← r, Bool.eq_iff_iff, hasK_iff]
  constructor
  · intro q
    refine Classical.byContradiction fun c => ?_
    rw [val_none c] at q
    cases q
  · intro c
    obtain ⟨v, e⟩ := val_some c
    rw [e]
    rfl
theorem pe_nget (hu : X.A.units + 16 < cLine) (ho : PE X o td) (hi : PE X i ty) (hs : NoSl i) : PE X (.Subscript o i pos) (tNGet X.prog X.w td ty) := by
  refine ⟨fun pins s σ H Q I h => ?_⟩
  refine subD_of PySem.F.slot_dict_getitem.lookup hs (thn (ho.run pins s σ H _ I h) fun u s1 ⟨x, H1, I1, rx, q1⟩ => thn (hi.run pins s1 σ H1 _ I1 q1) fun iv s2 ⟨y, H2, I2, ry, a, ka, k, es, v, ex, ey, hk, d, hv, q2⟩ => ?_)
  subst ex ey
  obtain rfl : u = Value.ref a := rx
  obtain rfl : iv = Value.ref ka := ry
  obtain ⟨z, sm, xs, pr, dd⟩ := d.dict I2.hok
  obtain ⟨w', hw, rw'⟩ := RelO.some_of (v := v) (o := (atKey xs k).map (·.2)) (by rw [← hv]; exact val_rel pr k)
  obtain ⟨p, hp, hp2⟩ := Option.map_eq_some_iff.mp hw
  refine ⟨dd.typeIs, wpAny_getItem_heap (show X.A.in1.units + 8 < cLine by show X.A.units + 1 + 8 < cLine; omega) (hk.is I2.hok) dd hp ?_⟩
  rw [hp2]
  exact ⟨v, H2, I2.tok _, rw', q2⟩
theorem pc_nin (hu : X.A.units + 16 < cLine) (hi : PE X i ty) (ho : PE X o td) : PC X .In i o (tNIn X.prog X.w false ty td) := by
  refine ⟨fun pins s σ H Q I h => ?_⟩
  refine thn (hi.run pins s σ H _ I h) fun iv s1 ⟨y, H1, I1, ry, q1⟩ => thn (ho.run pins s1 σ H1 _ I1 q1) fun u s2 ⟨x, H2, I2, rx, a, ka, k, es, ex, ey, hk, d, q2⟩ => ?_
  subst ex ey
  obtain rfl : u = Value.ref a := rx
  obtain rfl : iv = Value.ref ka := ry
  obtain ⟨z, sm, xs, pr, dd⟩ := d.dict I2.hok
  refine wpAny_in_heap (show X.A.in1.units + 8 < cLine by show X.A.units + 1 + 8 < cLine; omega) (hk.is I2.hok) sm dd ?_
  rw [any_eq pr]
  exact ⟨.bl _, H2, I2.tok _, rfl, q2⟩
theorem pc_nnotin (hu : X.A.units + 16 < cLine) (hi : PE X i ty) (ho : PE X o td) : PC X .NotIn i o (tNIn X.prog X.w true ty td) := by
  refine ⟨fun pins s σ H Q I h => ?_⟩
  refine thn (hi.run pins s σ H _ I h) fun iv s1 ⟨y, H1, I1, ry, q1⟩ => thn (ho.run pins s1 σ H1 _ I1 q1) fun u s2 ⟨x, H2, I2, rx, a, ka, k, es, ex, ey, hk, d, q2⟩ => ?_
  subst ex ey
  obtain rfl : u = Value.ref a := rx
  obtain rfl : iv = Value.ref ka := ry
  obtain ⟨z, sm, xs, pr, dd⟩ := d.dict I2.hok
  refine wpAny_notIn_heap (show X.A.in1.units + 8 < cLine by show X.A.units + 1 + 8 < cLine; omega) (hk.is I2.hok) sm dd ?_
  rw [any_eq pr]
  exact ⟨.bl _, H2, I2.tok _, rfl, q2⟩
end
def EwQ : V → List V → Hp → VK → Prop := fun x xs H Q => ∃ a b, x = .str a ∧ xs = [.str b] ∧ Q (.bl (Txt.endswith a b)) H
theorem mt_ew {X : Cx} : MtR X "str.endswith" EwQ := mt_endswith
theorem ew_iff {a b : Str} : Txt.endswith a b = true ↔ b.cps.toList <:+ a.cps.toList := by
  have la : a.cps.toList.length = a.length := Array.length_toList
  have lb : b.cps.toList.length = b.length := Array.length_toList
  have ex : ∀ i j, (a.cps.extract i j).toList = (a.cps.toList.drop i).take (j - i) := fun i j => by
    rw [Array.toList_extract, List.extract_eq_take_drop]
  unfold Txt.endswith Builtin.Str.subAt
  rw [Bool.and_eq_true, decide_eq_true_iff, beq_iff_eq, List.suffix_iff_eq_drop, la, lb]
  constructor
  · rintro ⟨l, h⟩
    have q := congrArg Array.toList h
    rw [ex] at q
    rw [← q]
    exact List.take_of_length_le (by rw [List.length_drop]; omega)
  · intro h
    have ll := congrArg List.length h
    rw [List.length_drop, la, lb] at ll
    refine ⟨by omega, Array.toList_inj.mp ?_⟩
    rw [ex, ← h]
    exact List.take_of_length_le (by omega)
end Bo
namespace Bo
open PySem PySem.Spec PyProof.Rows L2 Bn
section
variable {P : Program} {w : World} {σ : L2.St} {H : Hp} {Q : VK} {td ty : TE}
theorem ngetH (h : td σ H fun x H1 => ty σ H1 fun y H2 => ∃ (a ka : Addr) (k : NK) (es : List Ent) (v : V), x = .ref a ∧ y = .ref ka ∧ KeyT H2 k ka ∧ Nd P w H2 a es ∧ valN es k = some v ∧ Q v H2) : tNGet P w td ty σ H Q := h
theorem ninH {neg : Bool} (h : ty σ H fun y H1 => td σ H1 fun x H2 => ∃ (a ka : Addr) (k : NK) (es : List Ent), x = .ref a ∧ y = .ref ka ∧ KeyT H2 k ka ∧ Nd P w H2 a es ∧ Q (.bl (if neg then !hasK es k else hasK es k)) H2) : tNIn P w neg ty td σ H Q := h
theorem nnewH (h : ∀ (p : Addr) (G : Hp), H p = none → Nd P w G p [] → Same H G → (∀ b, b ≠ p → G b = H b) → Q (.ref p) G) : tNNew P w σ H Q := h
end
theorem val_at : ∀ {es : List Ent} {i : Nat} {k : NK} {a : Addr} {v : V}, es[i]? = some (k, a, v) → (∀ j, j < i → ∀ e, es[j]? = some e → e.1 ≠ k) → valN es k = some v
  | [], _, _, _, _, e, _ => by cases e
  | e0 :: es, 0, k, a, v, e, _ => by
    cases e
    unfold valN
    rw [List.find?_cons, decide_eq_true rfl]
    rfl
  | e0 :: es, i + 1, k, a, v, e, h => by
    have n0 := h 0 (by omega) e0 rfl
    have := val_at (es := es) (i := i) e fun j hj e' he => h (j + 1) (by omega) e' he
    unfold valN at this ⊢
    rw [List.find?_cons, decide_eq_false n0]
    exact this
end Bo

/-! t[::-1] and t[:0:-1] of tuples -/
namespace Rz
open PySem PySem.Spec PyProof.Rows
section
variable {prog : Program} {w : World} {A : Around} {E : Value → Shared → Prop} {s : Shared}
/-- how many items t[:hi:-1] leaves out at the begin -/
def offs : Option Int → Nat
  | none => 0
  | some _ => 1
theorem adjust_rev {hi : Option Int} (h : hi = none ∨ hi = some 0) (n : Nat) : Builtin.Slice.sliceAdjust none hi (-1) (n : Int) = ((n : Int) - 1, if hi = none then -1 else min 0 ((n : Int) - 1)) := by
  have h1 : ((-1 : Int) < 0) := by omega
  unfold Builtin.Slice.sliceAdjust
  simp only [h1, if_true]
  rcases h with rfl | rfl <;> rfl
theorem places_rev {hi : Option Int} (h : hi = none ∨ hi = some 0) (n : Nat) : Builtin.Slice.slicePlaces ((n : Int) - 1) (if hi = none then -1 else min 0 ((n : Int) - 1)) (-1) = n - offs hi := by
  unfold Builtin.Slice.slicePlaces
  have h1 : ¬ ((-1 : Int) > 0) := by omega
  simp only [h1, if_false]
  rcases h with rfl | rfl
  · rw [if_pos rfl]
    show (if (n : Int) - 1 > -1 then ((n : Int) - 1 - -1 - 1) / 1 + 1 else 0).toNat = n - 0
    rw [Int.ediv_one]
    split <;> omega
  · have e : (if (some (0 : Int)) = none then (-1 : Int) else min 0 ((n : Int) - 1)) = min 0 ((n : Int) - 1) := if_neg (by simp)
    rw [e]
    show (if (n : Int) - 1 > min 0 ((n : Int) - 1) then ((n : Int) - 1 - min 0 ((n : Int) - 1) - 1) / 1 + 1 else 0).toNat = n - 1
    rw [Int.ediv_one]
    split <;> omega
theorem fm_congr {α β : Type} {f g : α → Option β} : ∀ {l : List α}, (∀ x ∈ l, f x = g x) → l.filterMap f = l.filterMap g
  | [], _ => rfl
  | x :: l, h => by
    rw [List.filterMap_cons, List.filterMap_cons, h x (List.mem_cons_self ..), fm_congr fun y m => h y (List.mem_cons_of_mem _ m)]
theorem sliceApplied_rev {sl : Addr} {vl vu vs : Value} {hi : Option Int} {n : Nat} {Q : Int × Int × Nat → Shared → Prop} (h0 : hi = none ∨ hi = some 0) (hs : s.heap.IsSliceOf sl vl vu vs) (pl : IsPart vl none) (pu : IsPart vu hi) (ps : IsPart vs (some (-1)))
    (h : Q ((n : Int) - 1, -1, n - offs hi) s) : wpAny (model prog w) A (Builtin.Slice.sliceApplied (.ref sl) (pure (n : Int))) Q E s := by
  obtain ⟨os, hos, hcs, hds⟩ := id hs
  unfold Builtin.Slice.sliceApplied Builtin.Slice.sliceFields
  refine wpAny_bind (wpAny_bind (wpAny_field hos hds (x := vl) rfl (wpAny_bind (wpAny_field hos hds (x := vu) rfl (wpAny_bind (wpAny_field hos hds (x := vs) rfl (wpAny_pure ?_)))))))
  refine wpAny_bind (HT.slicePart_ ps ?_)
  show wpAny _ _ (if ((-1 : Int) == 0) = true then _ else _) _ _ s
  rw [if_neg (by decide)]
  refine wpAny_bind (HT.slicePart_ pl (wpAny_bind (HT.slicePart_ pu (wpAny_bind (wpAny_pure ?_)))))
  show wpAny _ _ (match Builtin.Slice.sliceAdjust none hi (-1) (n : Int) with | (lo, hi) => pure (lo, (-1 : Int), Builtin.Slice.slicePlaces lo hi (-1))) _ _ s
  rw [adjust_rev h0 n]
  show wpAny _ _ (pure ((n : Int) - 1, (-1 : Int), Builtin.Slice.slicePlaces ((n : Int) - 1) (if hi = none then -1 else min 0 ((n : Int) - 1)) (-1))) _ _ s
  rw [places_rev h0]
  exact wpAny_pure h
theorem pick_rev (xs : Array Value) (d : Nat) : ((List.range (xs.size - d)).filterMap fun (m : Nat) => xs[(((xs.size : Nat) : Int) - 1 + (m : Int) * (-1)).toNat]?).toArray = (xs.toList.drop d).reverse.toArray := by
  congr 1
  have e1 : (List.range (xs.size - d)).filterMap (fun (m : Nat) => xs[(((xs.size : Nat) : Int) - 1 + (m : Int) * (-1)).toNat]?) = (List.range (xs.size - d)).filterMap fun m => (xs.toList.drop d).reverse[m]? := by
    refine fm_congr fun m hm => ?_
    have hm := List.mem_range.mp hm
    have hx : (((xs.size : Nat) : Int) - 1 + (m : Int) * (-1)).toNat = xs.size - 1 - m := by omega
    rw [hx, List.getElem?_reverse (by rw [List.length_drop, Array.length_toList]; omega), List.getElem?_drop, List.length_drop, Array.length_toList, Array.getElem?_toList]
    congr 1
    omega
  rw [e1]
  have l : (xs.toList.drop d).reverse.length = xs.size - d := by rw [List.length_reverse, List.length_drop, Array.length_toList]
  rw [← l]
  generalize (xs.toList.drop d).reverse = ys
  have key : ∀ (ys : List Value) (k : Nat), k ≤ ys.length → (List.range k).filterMap (fun m => ys[m]?) = ys.take k := by
    intro ys k
    induction k with
    | zero => intro _; rfl
    | succ k ih =>
      intro hk
      rw [List.range_succ, List.filterMap_append, ih (by omega), List.take_succ]
      congr 1
  rw [key ys ys.length (Nat.le_refl _), List.take_length]
theorem getItem_tuple_rev {t sl : Addr} {items : Array Value} {vl vu vs : Value} {hi : Option Int} {Q : Value → Shared → Prop} (h0 : hi = none ∨ hi = some 0) (ht : IsTup s.heap t items) (hs : s.heap.IsSliceOf sl vl vu vs) (pl : IsPart vl none) (pu : IsPart vu hi) (ps : IsPart vs (some (-1)))
    (h : Q (.ref s.heap.objs.size) { s with heap := s.heap.push { cls := .type "tuple", data := .seq (items.toList.drop (offs hi)).reverse.toArray } })
    (hsz : items.size ≤ sizeLine) : wpAny (model prog w) A (getItem (.ref t) (.ref sl)) Q E s := by
  have htake : sizeOk (.seq (items.toList.drop (offs hi)).reverse.toArray) := by
    show (items.toList.drop (offs hi)).reverse.toArray.size ≤ sizeLine
    rw [List.size_toArray, List.length_reverse, List.length_drop, Array.length_toList]
    omega
  obtain ⟨os, hos, hcs, hds⟩ := id hs
  have hTs : s.TypeIs (.ref sl) "slice" := ⟨os, hos, hcs⟩
  unfold getItem
  try with_reducible refine wpAny_holding ?_
  first | refine wpAny_bind (wpAny_pure ?_) | skip
  refine wpAny_bind (wpAny_sequenceKey ht.typeIs (by decide) ?_)
  refine wpAny_bind (wpAny_callSpecial?_slot (name := Str.ofString "__getitem__") ht.typeIs PyProof.Rows.slot_tuple_getitem
    (wpAny_call_entry PyProof.Rows.slot_tuple_getitem ht.typeIs entry_tuple_getitem ?_ (args_tuple_getitem _ _)))
  show wpAny _ _ (Builtin.Tuple.tupleItemsOf (.ref t) >>= _) _ _ s
  refine wpAny_bind (tupleItemsOf_ ht ?_)
  refine wpAny_bind (wpAny_typeOf hTs ?_)
  rw [if_pos (by decide)]
  refine wpAny_bind (sliceApplied_rev h0 hs pl pu ps ?_)
  have hno : ¬ ((((items.size : Nat) : Int) - 1 == 0 && (-1 : Int) == 1 && (items.size - offs hi) == items.size) = true) := by
    intro q
    rw [Bool.and_eq_true, Bool.and_eq_true] at q
    have : (-1 : Int) = 1 := eq_of_beq q.1.2
    exact absurd this (by decide)
  show wpAny _ _ (if (((items.size : Nat) : Int) - 1 == 0 && (-1 : Int) == 1 && (items.size - offs hi) == items.size) = true then _ else _) _ _ s
  rw [if_neg hno, pick_rev]
  first
    | exact wpAny_bind (m := Builtin.Tuple.tupleExact _) (wpAny_newObj_type (wpAny_pure ⟨_, rfl, wpAny_pure h⟩) htake)
    | exact wpAny_bind (m := Builtin.Tuple.tupleExact _) (wpAny_newObj_type (wpAny_bind (wpAny_pure (wpAny_pure ⟨_, rfl, wpAny_pure h⟩))) htake)
    | exact wpAny_bind (wpAny_bind (m := Builtin.Tuple.tupleExact _) (wpAny_newObj_type (wpAny_pure (wpAny_pure ⟨_, rfl, wpAny_pure h⟩)) htake))
    | exact wpAny_bind (wpAny_bind (m := Builtin.Tuple.tupleExact _) (wpAny_newObj_type (wpAny_pure ⟨_, rfl, wpAny_pure h⟩) htake))
end
end Rz
namespace Rz
open PySem PySem.Spec PyProof.Rows L2
section
variable {X : Cx}
def tRevT (K : PySem.W.Frag) (te : TE) (th : TO) : TE := fun σ H Q => te σ H fun x H1 => th σ H1 fun o H2 => ∃ a xs, x = .ref a ∧ SqT K H2 a xs ∧ (o = none ∨ o = some 0) ∧ ∀ p, H2 p = none → Q (.ref p) (upd H2 p (.tup (xs.drop (offs o)).reverse))
theorem pe_revT {e : Expr} {hi : Option Expr} {te : TE} {th : TO} {k : Nat} {p1 p2 p3 pos : Pos} (he : PE X e te) (hu : PO X hi th) : PE X (.Subscript e (.Slice none hi (some (.UnaryOp .USub (.Constant (.int 1) k p1) p2)) p3) pos) (tRevT X.K te th) := by
  refine ⟨fun pins s σ H Q I h => ?_⟩
  refine Subscript_ (thn (he.run pins s σ H _ I h) fun v s1 ⟨x, H1, I1, r1, q1⟩ => ?_)
  have hst : PO X (some (.UnaryOp .USub (.Constant (.int 1) k p1) p2)) (tPart (tUn (rU fun i => .int (-i)) (tC (.int 1)))) := po_some (pe_un un_neg pe_int)
  refine wpAny_Slice (thn (po_none.run pins s1 σ H1 (fun o H2 => o = none ∧ H2 = H1) I1 ⟨rfl, rfl⟩) fun vl s2 ⟨l, H2, I2, pl, el, e2⟩ => ?_)
  subst el e2
  refine thn (hu.run pins s2 σ H2 _ I2 q1) fun vu s3 ⟨u, H3, I3, pu, q⟩ => ?_
  obtain ⟨a, xs, ex, hx, h0, q⟩ := q
  subst ex
  cases r1
  refine thn (hst.run pins s3 σ H3 (fun o H4 => o = some (-1) ∧ H4 = H3) I3 ⟨1, rfl, -1, rfl, rfl, rfl⟩) fun vs s4 ⟨o, H4, I4, ps, eo, e4⟩ => ?_
  subst eo e4
  have I5 : Inv X pins σ H4 { s4 with heap := s4.heap.push { cls := .type "slice", data := .fields #[vl, vu, vs] } } := I4.kept (t' := s4.toks) fun b ob q => Heap.get?_push_of_some _ q
  obtain ⟨its, r, ht, hz⟩ := I5.tuple hx
  have hlen := r.length
  show wpAny (model X.prog X.w) X.A (subscriptTail e (.Slice none hi (some (.UnaryOp .USub (.Constant (.int 1) k p1) p2)) p3) (.ref a) (.ref s4.heap.objs.size)) (EP X pins σ Q) X.xe { s4 with heap := s4.heap.push { cls := .type "slice", data := .fields #[vl, vu, vs] } }
  refine tail_any (ops := [.ref a, .ref s4.heap.objs.size]) ht.typeIs (PyProof.Rows.slot_tuple_getitem.lookup) ?_ (by with_unfolding_all rfl)
  refine getItem_tuple_rev h0 ht (Heap.IsSliceOf.new _ vl vu vs) pl pu ps ?_ (by rw [List.size_toArray]; omega)
  refine ⟨.ref _, _, I5.laid (t' := s4.toks) (o := .tup (xs.drop (offs u)).reverse) (fun b ob q => Heap.get?_push_of_some _ q) (Nat.le_refl _) ?_, rfl, q _ (I5.hok.fresh (Nat.le_refl _))⟩
  exact ⟨by rw [List.length_reverse, List.length_drop]; omega, _, (r.drop (offs u)).reverse, IsTup.new _ _⟩
end
end Rz
namespace Rz
open PySem PySem.Spec PyProof.Rows L2
theorem slA {K : PySem.W.Frag} {H : Hp} {a : Addr} {xs : List V} {lo hi : Option Int} {Q : VK} (h : SqT K H a xs) (k : ∀ (p : Addr) (G : Hp), Same H G → SqT K G p (cutV xs lo hi) → Q (.ref p) G) : rSlA K (.ref a) lo hi H Q :=
  ⟨a, xs, rfl, h, fun w => k a H (Same.refl _) (by
    have : cutV xs lo hi = xs := by
      unfold cutV
      rw [w.1, w.2, List.drop_zero, Nat.sub_zero, List.take_length]
    rw [this]
    exact h), fun _ p n => k p _ (Rd.same_upd n) (.of upd_same)⟩
theorem revT {K : PySem.W.Frag} {te : TE} {th : TO} {σ : L2.St} {H : Hp} {Q : VK} (h : te σ H fun x H1 => th σ H1 fun o H2 => ∃ a xs, x = .ref a ∧ SqT K H2 a xs ∧ (o = none ∨ o = some 0) ∧ Rd.NewQ (.tup (xs.drop (offs o)).reverse) Q H2) : tRevT K te th σ H Q := h
end Rz
namespace Rz
open PySem PySem.Spec PyProof.Rows L2
theorem slH {K : PySem.W.Frag} {H : Hp} {a : Addr} {xs : List V} {lo hi : Option Int} {Q : VK} (h : H a = some (.tup xs)) (k : ∀ (p : Addr) (G : Hp), Same H G → G p = some (.tup (cutV xs lo hi)) → Q (.ref p) G) : rSlA K (.ref a) lo hi H Q :=
  ⟨a, xs, rfl, .of h, fun w => k a H (Same.refl _) (by
    have : cutV xs lo hi = xs := by
      unfold cutV
      rw [w.1, w.2, List.drop_zero, Nat.sub_zero, List.take_length]
    rw [this]
    exact h), fun _ p n => k p _ (Rd.same_upd n) upd_same⟩
theorem catH {K : PySem.W.Frag} {H : Hp} {a b : Addr} {xs ys : List V} {Q : VK} (h1 : H a = some (.tup xs)) (h2 : H b = some (.tup ys)) (hz : xs.length + ys.length ≤ sizeLine) (k : ∀ (r : Addr) (G : Hp), Same H G → G r = some (.tup (xs ++ ys)) → Q (.ref r) G) : rCatA K (.ref a) (.ref b) H Q :=
  ⟨a, b, xs, ys, rfl, rfl, .of h1, .of h2, hz, fun e => k b H (Same.refl _) (by rw [e]; exact h2), fun _ e => k a H (Same.refl _) (by rw [e, List.append_nil]; exact h1), fun _ _ p n => k p _ (Rd.same_upd n) upd_same⟩
end Rz
namespace Rz
open PySem PySem.Spec PyProof.Rows L2
theorem rng2 {ta : TA} {σ : L2.St} {H : Hp} {R : It → Hp → Prop} (h : ta σ H fun vs H1 => ∃ i j : Int, vs = [.int i, .int j] ∧ (-(2 ^ 62) ≤ i ∧ i < 2 ^ 62 ∧ -(2 ^ 62) ≤ j ∧ j < 2 ^ 62) ∧ R (Itr i (j - i).toNat) H1) : iRng2 ta σ H R := h
end Rz

/-! bits of small numbers -/
namespace Rb
open PySem PySem.Spec
theorem andN (a b : Nat) : Builtin.bitAnd (a : Int) (b : Int) = ((a &&& b : Nat) : Int) := PySem.W.os_band a b
theorem orN (a b : Nat) : Builtin.bitOr (a : Int) (b : Int) = ((a ||| b : Nat) : Int) := by
  have n1 : ∀ x : Nat, Builtin.bitNot (x : Int) < 0 := fun x => by unfold Builtin.bitNot; omega
  have n2 : ∀ x : Int, Builtin.bitNot (Builtin.bitNot x) = x := fun x => by unfold Builtin.bitNot; omega
  unfold Builtin.bitOr Builtin.bitAnd
  have h1 := n1 a
  have h2 := n1 b
  rw [decide_eq_false (by omega), decide_eq_false (by omega)]
  simp only [n2, Int.toNat_natCast]
theorem bitN (a k : Nat) : Builtin.bitAnd ((a : Int) / 2 ^ ((k : Nat) : Int).toNat) 1 = ((a / 2 ^ k % 2 : Nat) : Int) := by
  rw [Int.toNat_natCast, show (a : Int) / 2 ^ k = ((a / 2 ^ k : Nat) : Int) by push_cast; rfl, show (1 : Int) = ((1 : Nat) : Int) from rfl, andN, Nat.and_one_is_mod]
theorem shl1 (k : Nat) : (1 : Int) * 2 ^ ((k : Nat) : Int).toNat = ((2 ^ k : Nat) : Int) := by
  rw [Int.toNat_natCast, Int.one_mul]
  push_cast
  rfl
end Rb

/-! Defs of which it is known that no repr is under way; repr of data. -/
namespace Rg
open PySem PySem.Spec PyProof.Rows L2
/-- the promise of a def, for the frames that stand in no repr -/
structure FnG (P : Program) (w : World) (K : PySem.W.Frag) (mg : Str → Option Value) (base : Heap) (CX : CXT) (k : Nat) (f : Addr) (fd : FuncData) (ps : List Str) (sp : Sp) : Prop where
  len : ∀ vs H Q E, sp vs H Q E → vs.length = ps.length
  run : ∀ (A : Around) (st : List Env) (s : Shared) (H : Hp) (ag : Args) (us : List Value) (vs : List V) (Q : VK) (E : XK), A.guards = some [] → Room k A → Env0 P w K mg base A st s H → BindsTo s fd ag (ps.zip us) → Vals vs us → sp vs H Q E →
    codeAny (model P w) A (.call (.ref f) ag) (CR CX st P w H s Q E) s
section
variable {P : Program} {w : World} {K : PySem.W.Frag} {mg : Str → Option Value} {base : Heap} {CX : CXT}
theorem FnG.mono {j k : Nat} {f : Addr} {fd : FuncData} {ps : List Str} {sp : Sp} (F : FnG P w K mg base CX j f fd ps sp) (h : j ≤ k) : FnG P w K mg base CX k f fd ps sp := ⟨F.len, fun A st s H ag us vs Q E g hr => F.run A st s H ag us vs Q E g (hr.mono h)⟩
theorem fnG_of {k : Nat} {f : Addr} {nm qual : Str} {pa : Arguments} {body : List Stmt} {sc : Scope} {dV kV doc pm cdv ct oc : Value} {an od : Option Addr} {osl : Array (Option Value)} {N ps : List Str} {sp : Sp}
    (lk : K.lookup f = some ⟨oc, od, .func (PySem.W.fnOf nm qual pa body sc dV kV doc pm an cdv ct), osl⟩) (hcd : PySem.W.codeIn K cdv qual = true) (S : FnScope N ps sc) (len : ∀ vs H Q E, sp vs H Q E → vs.length = ps.length)
    (hb : ∀ (A : Around) (st : List Env) (s : Shared) (H : Hp) (vs : List V) (Q : VK) (E : XK), A.guards = some [] → Room k (A.deeper (envOfC qual sc s.heap.objs.size f cdv)) → sp vs H Q E → ∃ t, PSs (cxOf CX P w K mg base N qual sc f cdv A st s H E) body t ∧ t { nx := fun _ H' => Q .non H', rt := Q } (start N vs) H) :
    FnG P w K mg base CX (k + 1) f (PySem.W.fnOf nm qual pa body sc dV kV doc pm an cdv ct) ps sp := by
  refine ⟨len, fun A st s H ag us vs Q E g hr e0 hbd r hsp => ?_⟩
  have KX : K.In s.heap := e0.mod.kin.keeps fun x o e => (e0.bs x o e).1
  have kinds : ∀ y ∈ ps.zip us, sc.names.lookup y.1 = some .local ∨ (sc.names.lookup y.1 = some .cell ∧ ((cellsFrom (s.heap.objs.size + 1) sc.names []).lookup y.1).isSome = true) := fun y hy =>
    (S.par y.1 (List.of_mem_zip hy).1).imp id fun q => ⟨q, PySem.W.cellsFrom_some _ _ _ (.inl q)⟩
  refine codeAny_call_function hr.depth (KX _ _ lk) rfl S.co S.gen rfl (PySem.W.codeRec_of KX hcd) (hbd _ _ _ _ (wpAny_newFunctionEnv_cells S.kind kinds fun env he s1 x => ?_))
  subst he
  refine ⟨(e0.mod.nolimit.keeps fun y o e => (e0.bs y o e).1).keeps x.toInCall.keep, codeAny_func ?_⟩
  obtain ⟨t, ht, hq⟩ := hb A st s H vs Q E g (hr.deeper _) hsp
  refine wpAny_mono (ht.run [] s1 (start N vs) H _ (inv_start S hr.hd e0 (len _ _ _ _ hsp) r x) hq) (fun fl s' hs => ?_) fun _ _ z => z
  cases fl with
  | ret u => exact let ⟨v, _, H', J, rv, q⟩ := hs; ⟨v, H', J.os, J.bare, J.base, J.hok, rv, q⟩
  | next => exact let ⟨_, H', J, q⟩ := hs; ⟨V.non, H', J.os, J.bare, J.base, J.hok, rfl, q⟩
  | brk => exact let ⟨_, _, _, q⟩ := hs; q.elim
  | cont => exact let ⟨_, _, _, q⟩ := hs; q.elim
end
section
variable {P : Program} {w : World} {K : PySem.W.Frag} {mg : Str → Option Value} {base : Heap}
/-- a def by its body, no repr under way -/
theorem okG {x qual : Str} {st : Stmt} {f : Addr} {fd : FuncData} {N ps : List Str} {k : Nat} {sp : Sp} (F : Fun K x qual st f fd) (S : FnScope N ps (defScope st)) (len : ∀ vs H Q E, sp vs H Q E → vs.length = ps.length)
    (hb : ∀ (cdv : Value) (A : Around) (out : List Env) (s : Shared) (H : Hp) (vs : List V) (Q : VK) (E : XK), A.guards = some [] → Room k (A.deeper (envOfC qual (defScope st) s.heap.objs.size f cdv)) → sp vs H Q E →
      ∃ t, PSs (cxOf CX0 P w K mg base N qual (defScope st) f cdv A out s H E).nox (defBody st) t ∧ t { nx := fun _ H' => Q .non H', rt := Q } (start N vs) H) : FnG P w K mg base CX0 (k + 1) f fd ps sp := by
  obtain ⟨_, _, _, _, _, _, cdv, _, _, rfl, lk, hcd⟩ := F.ex
  exact fnG_of lk hcd S len fun A out s H vs Q E g hr h => let ⟨t, p, q⟩ := hb cdv A out s H vs Q E g hr h; ⟨t, p.nox, q⟩
end
section
variable {X : Cx} {CX : CXT} {k : Nat} {f : Addr} {fd : FuncData} {ps : List Str} {sp : Sp} {E : XK} {x : Str} {p pos : Pos} {e : Expr} {es : List Expr} {t : TA}
/-- such a def called by its name -/
theorem pe_callG (g : X.A.guards = some []) (F : FnG X.prog X.w X.K X.mg X.base CX k f fd ps sp) (hr : Room k X.A) (hg : Gl X x) (hm : X.mg x = some (.ref f)) (hk : PySem.W.keepIn X.K (.ref f) = true) (hb : Binds X.K fd ps []) (hx : Passes CX X E) (ha : PA X (e :: es) t)
    (hdb : (x == ("__debug__" : Str)) = false := by decide) (he : starEach (e :: es) X.env = (false, eval e X.env) :: starEach es X.env := by rfl) (hpl : (backTo pos (starEach es X.env)).any (·.1) = false := by rfl) :
    PE X (.Call (.Name x p) (e :: es) [] pos) (tCall sp [] E t) := ⟨fun pins s σ H Q I h => by
  refine wpAny_Call_Name_kw (ld_glob I hg hm (PySem.W.callWith_K (h₀ := X.base) I.ok.mod.kin hk (thn (ha.run pos pins s σ H _ I h) fun us s1 hq => ?_) he hpl) hdb)
  obtain ⟨vs, H1, I1, r, q⟩ := hq
  rw [List.append_nil] at q
  have hl : (us ++ []).length = ps.length := by rw [List.append_nil, ← r.length]; exact F.len _ _ _ _ q
  have b := hb s1 us I1.kIn hl
  rw [List.append_nil] at b
  refine ⟨I1.kIn, wpAny_call (codeAny_mono (F.run X.A X.stack s1 H1 ⟨us, []⟩ us vs Q E g hr I1.env0 b r q) fun res s' z => ?_)⟩
  match res, z with
  | .error v, z => exact hx pins σ H1 s1 v s' I1 z
  | .ok (.ret u), z => exact I1.after z
  | .ok .next, z => exact z.elim
  | .ok .brk, z => exact z.elim
  | .ok .cont, z => exact z.elim⟩
end
/-! ### repr -/
def rRepr (K : PySem.W.Frag) : List V → Hp → VK → Prop := fun vs H Q => ∃ (a : Addr) (d : PyData), vs = [.ref a] ∧ Dp K H (.ref a) d ∧ d.showable = true ∧ d.hasDict = false ∧ d.depth ≤ 100 ∧ d.shown.length ≤ sizeLine ∧ Q (.str d.shown) H
theorem cr_repr {X : Cx} (g : X.A.guards = some []) (hu : X.A.units + 101 < cLine) : CallR X (.builtin "repr") (rRepr X.K) := by
  intro pins s σ H vs us Q I r h
  obtain ⟨a, d, rfl, dp, sh, nd, dd, hz, q⟩ := h
  rw [Vals.ref1 r]
  obtain ⟨as, rd⟩ := Dp.reads I d (.ref a) (.ref a) dp rfl
  refine repr_of_reads' rd sh (PyData.noDict_hsm nd) g (by omega) (fun _ _ z => z) (fun h' u tk kp => ?_) hz
  exact ⟨.str d.shown, H, I.kept (t' := tk) kp, ⟨_, rfl⟩, q⟩
/-! ### the law's own def -/
/-- the abstract heap behind the top: the script alone, unless it is one of the module's own objects -/
def scriptH (K : PySem.W.Frag) (a : Addr) (vs : List Value) (ns : List Int) : Hp := fun b => if b = a ∧ K.lookup a = none then some (.frz { cls := .type "list", data := .seq vs.toArray } (.lst (ns.map V.int))) else none
theorem scriptH_some {K : PySem.W.Frag} {a b : Addr} {vs : List Value} {ns : List Int} {u : HO} (h : scriptH K a vs ns b = some u) : b = a ∧ K.lookup a = none ∧ u = .frz { cls := .type "list", data := .seq vs.toArray } (.lst (ns.map V.int)) := by
  unfold scriptH at h
  by_cases c : b = a ∧ K.lookup a = none
  · rw [if_pos c] at h
    exact ⟨c.1, c.2, (Option.some.inj h).symm⟩
  · rw [if_neg c] at h
    cases h
theorem walk_ofG {l : PySem.W.OpenLaw} {n k : Nat} {q : Program} {loose : List Str} {XP : (Str → Option Value) → Heap → Prop} {YP : World → Heap → Prop} {d : DefRec} {K : Params → PySem.W.Frag} {CX : World → CXT} {sp : World → Sp} {x : Str}
    (hn : l.most = some n) (hn2 : n ≤ sizeLine) (hdf : d.params.defaults = []) (hr : Room k callerA) (hY : ∀ (w : World) (h : Heap), YP w h → (K w.params).In h)
    (F : ∀ (w : World) (mg : Str → Option Value) (fa : Addr) (h : Heap), (K w.params).In h → h.Ns mainGlobals mg → mg d.name = some (.ref fa) →
      ∃ fd : FuncData, (∀ (s : Shared) (u : Value), BindsTo s fd ⟨[u], []⟩ [(x, u)]) ∧ ∀ base : Heap, (K w.params).In base → base.Ns mainGlobals mg → FnG l.prog w (K w.params) mg base (CX w) k fa fd [x] (sp w))
    (hsp : ∀ (w : World) (H : Hp) (a : Addr) (ns : List Int), ns.length ≤ n → SqL (K w.params) H a (ns.map V.int) → sp w [.ref a] H (fun v _ => v = .bl true) fun _ _ _ => False)
    (hCX : ∀ (w : World) (H : Hp) (s : Shared) (e : Value) (s' : Shared), CX w [] H s (fun _ _ _ => False) e s' → False) :
    PySem.W.WalkO q loose XP YP l.row.toRowW d [] (fun f vs => PySem.call f vs) := by
  refine Att.attach_call hn hdf fun w s₀ s1 mg mb fa o pm cd doc a vs ns G Y _ _ _ hmg hobj hints hlen hgen => ?_
  have KX := hY w _ Y
  obtain ⟨fd, hbind, hF⟩ := F w mg fa _ KX G.T.g hmg
  have len : vs.length = ns.length := hints.length
  have rv := vals_ints hints
  let H := scriptH (K w.params) a vs ns
  have hS : SqL (K w.params) H a (ns.map V.int) := by
    cases hk : (K w.params).lookup a with
    | none => exact .inl (.inr ⟨_, if_pos ⟨rfl, hk⟩⟩)
    | some ob =>
      have e := KX a ob hk
      rw [hobj] at e
      cases e
      exact .inr ⟨_, vs.toArray, _, hk, rfl, rfl, rfl, by rw [List.size_toArray, len]; omega, by simpa using rv⟩
  have hok : HOk l.prog w H s1.heap := fun b u z => by
    obtain ⟨rfl, _, rfl⟩ := scriptH_some z
    exact ⟨hobj, by rw [List.length_map]; omega, vs, _, rv, hobj⟩
  have keepK : ∀ {b : Addr} {ob : Obj}, s1.heap.get? b = some ob → H b = none → (hidT s1.heap H).get? b = some ob := fun e z => hidT_get e z
  have noDict : ∀ {b : Addr} {ob : Obj} {es : Array DictEntry} {ep : Nat}, s1.heap.get? b = some ob → ob.data = .dict es ep → H b = none := fun {b ob es ep} e z => by
    cases c : H b with
    | none => rfl
    | some u =>
      obtain ⟨rfl, _, _⟩ := scriptH_some c
      rw [hobj] at e
      cases e
      exact absurd z (fun y => Data.noConfusion y)
  have hns : ∀ {b : Addr} {m : Str → Option Value}, s1.heap.Ns b m → (hidT s1.heap H).Ns b m := fun {b m} ⟨ob, es, ep, e, z, r⟩ => ⟨ob, es, ep, keepK e (noDict e z), z, r⟩
  have hKb : (K w.params).In (hidT s1.heap H) := fun b ob e => keepK (KX b ob e) (by
    cases c : H b with
    | none => rfl
    | some u =>
      obtain ⟨rfl, z, _⟩ := scriptH_some c
      rw [z] at e
      cases e)
  have hM : Mod (K w.params) mg (hidT s1.heap H) := ⟨hKb, hns G.T.g, ⟨mb, hns G.T.b, G.T.builtins⟩, let ⟨mc, h1, h2⟩ := G.T.nolimit; ⟨mc, hns h1, h2⟩⟩
  have e0 : Env0 l.prog w (K w.params) mg (hidT s1.heap H) callerA [] s1 H := ⟨rfl, hM, fun b ob e => of_hidT e, Nat.le_of_eq (hidT_size _ _), trivial, fun b z => absurd z List.not_mem_nil, hok, .of_eq hgen⟩
  refine codeAny_mono ((hF _ hKb (hns G.T.g)).run callerA [] s1 H ⟨[.ref a], []⟩ [.ref a] [.ref a] _ _ rfl hr e0 (hbind s1 (.ref a)) (.cons rfl .nil) (hsp w H a ns hlen hS)) fun r s' z => ?_
  match r, z with
  | .error v, z => exact (hCX w H s1 v s' z).elim
  | .ok .next, z => exact z.elim
  | .ok .brk, z => exact z.elim
  | .ok .cont, z => exact z.elim
  | .ok (.ret u), z =>
    obtain ⟨v, H', os, bare, un, hok', rel, rfl⟩ := z
    obtain rfl : u = Value.bool true := rel
    refine ⟨rfl, OldK.of_keep fun b ob e => ?_, os, bare⟩
    cases c : H b with
    | none => exact un.keep b ob e c (fun y => absurd y List.not_mem_nil) (fun y => absurd y List.not_mem_nil)
    | some u =>
      obtain ⟨rfl, _, rfl⟩ := scriptH_some c
      obtain ⟨e2, _⟩ := hok' _ _ (un.frzs _ _ _ c)
      rw [hobj] at e
      cases e
      exact e2
end Rg
namespace Rg
theorem u101 {k : Nat} {A : PySem.Around} (h : L2.Room k A) : A.units + 101 < PySem.cLine := by have := h.un; omega
end Rg

/-! Closures: a lambda with parameters that is handed to a def, and called there by the parameter's name. -/
namespace Rk
open PySem PySem.Spec PyProof.Rows L2 LamX NdefX
/-- what is known of the function at f, seen from a state s0: from any later state in which the frames fr and what was not tracked are kept, its call keeps the promise sp -/
structure Clo (P : Program) (w : World) (K : PySem.W.Frag) (mg : Str → Option Value) (base : Heap) (k : Nat) (fr : List Addr) (f : Addr) (s0 : Shared) (H0 : Hp) (sp : Sp) : Prop where
  ob : ∃ oc od fd sl, s0.heap.get? f = some (⟨oc, od, .func fd, sl⟩ : Obj)
  nt : H0 f = none
  nf : f ∉ fr
  run : ∀ (A : Around) (st : List Env) (s : Shared) (H : Hp) (us : List Value) (vs : List V) (Q : VK) (E : XK), Room k A → Env0 P w K mg base A st s H → Un fr [] H0 H s0.heap s.heap → Vals vs us → sp vs H Q E →
    codeAny (model P w) A (.call (.ref f) ⟨us, []⟩) (CR (L2.CX P w) st P w H s Q E) s
/-- the names of a lambda: its parameters, what it captures, globals -/
structure LamP (sc scope : Scope) (ps : List Str) : Prop where
  kind : scope.kind = .function
  co : scope.isCoroutine = false
  gen : scope.isGenerator = false
  nocell : ∀ y ∈ scope.names, y.2 ≠ .cell
  par : ∀ p ∈ ps, scope.names.lookup p = some .local
  loc : ∀ y ∈ scope.names, y.2 = .local → y.1 ∈ ps
  free : ∀ y ∈ scope.names, y.2 = .free → sc.names.lookup y.1 = some .cell ∨ sc.names.lookup y.1 = some .free
def lamPB (sc scope : Scope) (ps : List Str) : Bool :=
  decide (scope.kind = .function) && (!scope.isCoroutine && (!scope.isGenerator && ((scope.names.all fun y => !decide (y.2 = .cell)) && ((ps.all fun p => decide (scope.names.lookup p = some .local)) && ((scope.names.all fun y => !decide (y.2 = .local) || decide (y.1 ∈ ps)) &&
    scope.names.all fun y => !decide (y.2 = .free) || (decide (sc.names.lookup y.1 = some .cell) || decide (sc.names.lookup y.1 = some .free)))))))
theorem lamP_by {sc scope : Scope} {ps : List Str} (h : lamPB sc scope ps = true) : LamP sc scope ps := by
  unfold lamPB at h
  simp only [Bool.and_eq_true, Bool.or_eq_true, Bool.not_eq_true', decide_eq_true_eq, decide_eq_false_iff_not, List.all_eq_true] at h
  obtain ⟨h1, h2, h3, h4, h5, h6, h7⟩ := h
  exact ⟨h1, h2, h3, h4, h5, fun y m e => (h6 y m).resolve_left fun n => n e, fun y m e => (h7 y m).resolve_left fun n => n e⟩
section
variable {X : Cx} {pins : List (Addr × Obj)} {σ : L2.St} {H HZ : Hp} {s s1 : Shared} {ps : List Str}
theorem LamP.has {scope : Scope} (L : LamP X.env.scope scope ps) (ok : X.Ok) : ∀ y ∈ scope.names, y.2 = .free → ∃ c, X.env.cells.lookup y.1 = some c :=
  fun y m e => (L.free y m e).elim (fun k => ok.has _ (.inl k)) fun k => ok.has _ (.inr k)
/-- the slots in a lambda: the parameters' hold what was handed in, the others are the maker's -/
structure Slots (X : Cx) (ps : List Str) (us : List Value) (σ σ' : L2.St) : Prop where
  len : σ'.length = σ.length
  par : ∀ (i : Nat) (y : Str) (v : V), X.N[i]? = some y → σ'[i]? = some (some v) → y ∈ ps → ∃ u, RelV v u ∧ (ps.zip us).reverse.lookup y = some u
  old : ∀ (i : Nat) (y : Str) (v : V), X.N[i]? = some y → σ'[i]? = some (some v) → y ∉ ps → σ[i]? = some (some v)
theorem slots1 {p : Str} {j : Nat} {v : V} {u : Value} (nd : X.N.Nodup) (hj : X.N[j]? = some p) (r : RelV v u) : Slots X [p] [u] σ (σ.set j (some v)) := by
  have same : ∀ {i : Nat}, X.N[i]? = some p → j = i := fun {i} hi => by
    rcases Nat.lt_trichotomy j i with q | q | q
    · exact absurd (List.mem_of_getElem? (show (X.N.take i)[j]? = some p by rw [List.getElem?_take, if_pos q]; exact hj)) (Rd.nodup_take nd hi)
    · exact q
    · exact absurd (List.mem_of_getElem? (show (X.N.take j)[i]? = some p by rw [List.getElem?_take, if_pos q]; exact hi)) (Rd.nodup_take nd hj)
  refine ⟨List.length_set, fun i y w hi hw hy => ?_, fun i y w hi hw hy => ?_⟩
  · have hy : y = p := by simpa using hy
    subst hy
    cases same hi
    have l : j < σ.length := by
      rcases Nat.lt_or_ge j σ.length with l | l
      · exact l
      · rw [List.getElem?_eq_none (by rw [List.length_set]; exact l)] at hw
        cases hw
    rw [List.getElem?_set_self l] at hw
    cases hw
    exact ⟨u, r, by simp [List.lookup]⟩
  · have ne : j ≠ i := fun e => by
      subst e
      rw [hj] at hi
      cases hi
      exact hy (List.mem_singleton.mpr rfl)
    rw [List.getElem?_set_ne ne] at hw
    exact hw
def put1 (j : Nat) : L2.St → List V → L2.St := fun σ vs => match vs with
  | [v] => σ.set j (some v)
  | _ => σ
theorem hput1 {p : Str} {j : Nat} (nd : X.N.Nodup) (hj : X.N[j]? = some p) : ∀ (σ : L2.St) (vs : List V) (us : List Value), Vals vs us → us.length = [p].length → Slots X [p] us σ (put1 j σ vs) := fun σ vs us r l => by
  match us, l, vs, r with
  | [u], _, [v], .cons r .nil => exact slots1 nd hj r
/-- the lambda's body begins -/
theorem lam_begin {A : Around} {outer : List Env} {E : XK} {scope : Scope} {f c' : Addr} {h₁ : Heap} {tk : Nat} {us : List Value} {σ' : L2.St} (I : Inv X pins σ H s) (L : LamP X.env.scope scope ps) (S : Slots X ps us σ σ') (e0 : Env0 X.prog X.w X.K X.mg X.base A outer s1 HZ) (hd : A.handled = none)
    (un : Un (frs X.stack) [] H HZ s.heap s1.heap) (hns : h₁.Ns s1.heap.objs.size fun y => (ps.zip us).reverse.lookup y) (kp : ∀ b o, s1.heap.get? b = some o → h₁.get? b = some o) :
    Inv (lamCx X A outer s1 HZ E scope f c') [] σ' HZ { s1 with heap := h₁, toks := tk } := by
  have hfree := L.has I.ok
  have cm : ∀ {y c}, (cloFrom X.env.cells scope.names []).lookup y = some c → X.env.cells.lookup y = some c := fun e => clo_cm hfree e
  have look : ∀ {y}, scope.names.lookup y = some .free → ∃ c, (cloFrom X.env.cells scope.names []).lookup y = some c := fun {y} hl => by
    obtain ⟨c, hc⟩ := hfree _ (PySem.mem_of_lookup hl) rfl
    exact ⟨c, clo_has hfree (PySem.mem_of_lookup hl) hc⟩
  have cellK : ∀ {c : Addr} {v : Option Value}, H c = none → s.heap.IsCell c v → h₁.IsCell c v := fun {c v} n z => by
    obtain ⟨o, ho, hd⟩ := z
    obtain ⟨sl, q⟩ := un.any ho n List.not_mem_nil
    exact ⟨_, kp _ _ q, hd⟩
  have no : ∀ b : Addr, b ∉ (lamCx X A outer s1 HZ E scope f c').ex := fun b => List.not_mem_nil
  have nc : ∀ {y}, scope.names.lookup y = some .cell → False := fun hl => L.nocell _ (PySem.mem_of_lookup hl) rfl
  have okX : (lamCx X A outer s1 HZ E scope f c').Ok :=
    { mod := e0.mod, kind := L.kind, glob := rfl, blt := rfl, above := Nat.le_refl _,
      inj := fun y z c e1 e2 => I.ok.inj y z c (cm e1) (cm e2)
      has := fun y hy => hy.elim (fun h => (nc h).elim) look
      cab := fun y c z _ => by cases (show false = true from z)
      hd := fun _ => hd, frames := Around.frames_deeper e0.frames, stk := .inr ⟨rfl, rfl⟩, exf := fun b z => absurd z (no b), bs := e0.bs, bsz := e0.bsz, noex := fun b _ _ => no b, exfs := fun b z => absurd z (no b), funs := e0.funs, frf := e0.frf }
  refine { ok := okX, os := rfl, bare := e0.bare, base := Un.kept kp, loc := ⟨_, hns, fun i y v e1 e2 e3 => ?_⟩, cell := fun y c e => ?_, free := e0.hok.fresh (Nat.le_refl _), freeC := fun y c e => ?_, pin := fun q hq => absurd (show q ∈ ([] : List (Addr × Obj)) ++ [] from hq) (by simp), hok := e0.hok.kept kp, len := S.len.trans I.len }
  · have e3 : Vis scope y := e3
    rcases e3 with k | k | k
    · obtain ⟨u, r, q⟩ := S.par i y v e1 e2 (L.loc _ (PySem.mem_of_lookup k) rfl)
      exact ⟨u, r, .inl ⟨k, q⟩⟩
    · exact (nc k).elim
    · have ny : y ∉ ps := fun m => by
        have := L.par y m
        rw [k] at this
        cases this
      obtain ⟨m, hn, hl⟩ := I.loc
      have kx := L.free _ (PySem.mem_of_lookup k) rfl
      obtain ⟨u, r, q⟩ := hl i y v e1 (S.old i y v e1 e2 ny) (kx.elim (fun z => .inr (.inl z)) fun z => .inr (.inr z))
      obtain ⟨c2, h2⟩ := look k
      refine ⟨u, r, .inr ⟨.inr k, c2, h2, ?_⟩⟩
      rcases q with ⟨z, _⟩ | ⟨_, c3, e', z⟩
      · have z : X.env.scope.names.lookup y = some .local := z
        rcases kx with k2 | k2 <;> rw [show X.env.scope.names.lookup y = _ from k2] at z <;> cases z
      · rw [cm h2] at e'
        cases e'
        exact cellK (I.freeC y _ (cm h2)) z
  · obtain ⟨v, z⟩ := I.cell y c (cm e)
    exact ⟨v, cellK (I.freeC y c (cm e)) z⟩
  · obtain ⟨v, o, ho, _⟩ := I.cell y c (cm e)
    exact un.free c o ho (I.freeC y c (cm e)) List.not_mem_nil
/-- a lambda just made is a closure -/
theorem clo_of {f c' : Addr} {pm ctv : Value} {params : Arguments} {body : Expr} {scope : Scope} {k : Nat} {tb : TE} {put : List V → L2.St} (I : Inv X pins σ H s) (L : LamP X.env.scope scope ps)
    (hf : s.heap.get? f = some (PySem.W.kla_obj "<lambda>" (X.env.qual ++ "<lambda>") params body scope (cloFrom X.env.cells scope.names []) pm c' ctv)) (hfn : H f = none) (hfr : f ∉ frs X.stack)
    (hbind : ∀ us : List Value, us.length = ps.length → bindArgs (PySem.W.kla_fn "<lambda>" (X.env.qual ++ "<lambda>") params body scope (cloFrom X.env.cells scope.names []) pm (.ref c') ctv) ⟨us, []⟩ = pure (ps.zip us))
    (hput : ∀ vs us, Vals vs us → us.length = ps.length → Slots X ps us σ (put vs))
    (hbody : ∀ (A : Around) (outer : List Env) (s : Shared) (H : Hp) (E : XK), Room k (A.deeper (lamEnv X scope s.heap.objs.size f c')) → PE (lamCx X A outer s H E scope f c') body tb) :
    Clo X.prog X.w X.K X.mg X.base (k + 1) (frs X.stack) f s H (fun vs HZ Q E => vs.length = ps.length ∧ HZ c' = some (CodeO c' (X.env.qual ++ "<lambda>")) ∧ tb (put vs) HZ Q) := by
  refine ⟨⟨_, _, _, _, hf⟩, hfn, hfr, ?_⟩
  rintro A st s1 HZ us vs Q E hr e0 un r ⟨lv, hc, ht⟩
  have lu : us.length = ps.length := r.length.symm.trans lv
  have of1 := un.keep f _ hf hfn hfr List.not_mem_nil
  obtain ⟨⟨oc, zs, t, hoc, hdc, hvc⟩, _, _⟩ := e0.hok c' _ hc
  refine PySem.W.kla_callFunE hr.depth of1 rfl L.co L.gen rfl ⟨c', oc, zs, t, rfl, hoc, hdc, hvc⟩ ?_
  rw [hbind us lu]
  refine wpAny_pure (wpAny_newFunctionEnv (fun y hy => L.nocell y hy) (fun y hy => L.par _ (List.of_mem_zip hy).1) (fun h₁ hns hsb => ⟨(e0.mod.nolimit.keeps fun b o e => (e0.bs b o e).1).fresh _ hsb, ?_⟩) L.kind)
  show codeAny _ _ (.expr body (lamEnv X scope s1.heap.objs.size f c')) _ _
  have kp : ∀ b o, s1.heap.get? b = some o → h₁.get? b = some o := fun b o e => hsb.extBut b o (Nat.ne_of_lt (Heap.lt_size e)) (Heap.get?_push_of_some _ e)
  have J : Inv (lamCx X A st s1 HZ E scope f c') [] (put vs) HZ { s1 with heap := h₁, toks := s1.toks + (ps.zip us).length } := lam_begin I L (hput vs us r lu) e0 hr.hd un hns kp
  refine PySem.W.kla_codeExpr (wpAny_mono ((hbody A st s1 HZ E (hr.deeper _)).run [] _ _ HZ Q J ht) (fun v s' hq => ?_) fun e s' hq => hq)
  obtain ⟨v', H', J', rv, q⟩ := hq
  exact ⟨v', H', J'.os, J'.bare, J'.base, J'.hok, rv, q⟩
end
/-! ### the def that is handed a closure -/
structure FnC (P : Program) (w : World) (K : PySem.W.Frag) (mg : Str → Option Value) (base : Heap) (k : Nat) (f : Addr) (fd : FuncData) (ps : List Str) (kc : Nat) (sp : (Addr → Sp → Prop) → Sp) : Prop where
  len : ∀ C vs H Q E, sp C vs H Q E → vs.length = ps.length
  run : ∀ (A : Around) (st : List Env) (s : Shared) (H : Hp) (ag : Args) (us : List Value) (vs : List V) (Q : VK) (E : XK), Room k A → Env0 P w K mg base A st s H → BindsTo s fd ag (ps.zip us) → Vals vs us →
    sp (fun fa spf => Clo P w K mg base kc (frs st) fa s H spf) vs H Q E → codeAny (model P w) A (.call (.ref f) ag) (CR CX0 st P w H s Q E) s
section
variable {P : Program} {w : World} {K : PySem.W.Frag} {mg : Str → Option Value} {base : Heap}
/-- such a def by its body -/
theorem okC {x qual : Str} {st : Stmt} {f : Addr} {fd : FuncData} {N ps : List Str} {k kc : Nat} {sp : (Addr → Sp → Prop) → Sp} (F : Fun K x qual st f fd) (S : FnScope N ps (defScope st)) (len : ∀ C vs H Q E, sp C vs H Q E → vs.length = ps.length)
    (hb : ∀ (cdv : Value) (A : Around) (out : List Env) (s : Shared) (H : Hp) (vs : List V) (Q : VK) (E : XK), Room k (A.deeper (envOfC qual (defScope st) s.heap.objs.size f cdv)) → sp (fun fa spf => Clo P w K mg base kc (frs out) fa s H spf) vs H Q E →
      ∃ t, PSs (cxOf CX0 P w K mg base N qual (defScope st) f cdv A out s H E).nox (defBody st) t ∧ t { nx := fun _ H' => Q .non H', rt := Q } (start N vs) H) : FnC P w K mg base (k + 1) f fd ps kc sp := by
  obtain ⟨_, _, _, _, _, _, cdv, _, _, rfl, lk, hcd⟩ := F.ex
  refine ⟨len, fun A out s H ag us vs Q E hr e0 hbd r h => ?_⟩
  exact run_ofS lk hcd S hr e0 hbd r (len _ _ _ _ _ h) fun hr' => let ⟨t, p, q⟩ := hb cdv A out s H vs Q E hr' h; ⟨t, p.nox, q⟩
end
/-- x(e, ..), x a parameter that holds a closure -/
def tClo (C : Addr → Sp → Prop) (i : Nat) (E : XK) (t : TA) : TE := fun σ H Q => ∃ f spf, σ[i]? = some (some (.ref f)) ∧ C f spf ∧ t σ H fun vs H1 => spf vs H1 Q E
section
variable {X : Cx} {k kc i : Nat} {x : Str} {E : XK} {t : TA} {e : Expr} {es : List Expr} {p pos : Pos}
theorem pe_clo (hr : Room k X.A) (hk : kc ≤ k) (hex : X.ex = []) (hx : Passes (L2.CX X.prog X.w) X E) (hN : X.N[i]? = some x) (hv : Vis X.env.scope x) (ha : PA X (e :: es) t)
    (hd : (x == ("__debug__" : Str)) = false := by decide) (hcd : (x == ("__classdict__" : Str)) = false := by decide)
    (he : starEach (e :: es) X.env = (false, eval e X.env) :: starEach es X.env := by rfl) (hpl : (backTo pos (starEach es X.env)).any (·.1) = false := by rfl) :
    PE X (.Call (.Name x p) (e :: es) [] pos) (tClo (fun f spf => Clo X.prog X.w X.K X.mg X.base kc X.fs f X.s_0 X.H_0 spf) i E t) := by
  refine ⟨fun pins s σ H Q I h => ?_⟩
  obtain ⟨f, spf, hs, C, ht⟩ := h
  have at_ : ∀ {s H σ}, Inv X pins σ H s → PySem.W.FnAt f s.heap := fun J => by
    obtain ⟨oc, od, fd, sl, ho⟩ := C.ob
    exact ⟨_, _, _, _, J.base.keep f _ ho C.nt C.nf (by rw [hex]; exact List.not_mem_nil)⟩
  refine wpAny_Call_Name_kw (thn ((pe_var (pos := p) hN hv hd hcd).run pins s σ H (fun v H1 => v = .ref f ∧ H1 = H) I ⟨.ref f, hs, rfl, rfl⟩) fun u s1 ⟨v, H1, I1, r1, q1⟩ => ?_)
  obtain ⟨ev, eH⟩ := q1
  subst ev
  rw [eH] at I1
  obtain rfl : u = Value.ref f := r1
  refine PySem.W.callWith_F (first := []) (at_ I1) (thn (ha.run pos pins s1 σ H _ I1 ht) fun us s2 ⟨vs, H2, I2, r, q⟩ => ⟨at_ I2, ?_⟩) he hpl
  have un : Un X.fs [] X.H_0 H2 X.s_0.heap s2.heap := hex ▸ I2.base
  refine wpAny_call (codeAny_mono (C.run X.A X.stack s2 H2 us vs Q E (hr.mono hk) I2.env0 un r q) fun r s' z => ?_)
  match r, z with
  | .error v, z => exact hx pins σ H2 s2 v s' I2 z
  | .ok (.ret u), z => exact I2.after z
  | .ok .next, z => exact z.elim
  | .ok .brk, z => exact z.elim
  | .ok .cont, z => exact z.elim
end
/-! ### the def that makes the lambda -/
/-- the reading of arguments of which the last is a lambda -/
abbrev TL := L2.St → Hp → ((Addr → Sp → Prop) → List V → Hp → Prop) → Prop
structure PL (X : Cx) (kc : Nat) (es : List Expr) (t : TL) : Prop where
  run : ∀ (pos : Pos) (pins : List (Addr × Obj)) (s : Shared) (σ : L2.St) (H : Hp) (R : (Addr → Sp → Prop) → List V → Hp → Prop), Inv X pins σ H s → t σ H R →
    wpAny (model X.prog X.w) X.A (spliced (backTo pos (starEach es X.env))) (fun us s1 => ∃ vs H1, Inv X pins σ H1 s1 ∧ Vals vs us ∧ R (fun f sp => Clo X.prog X.w X.K X.mg X.base kc (frs X.stack) f s1 H1 sp) vs H1) X.xe s
def tlCons (te : TE) (t : TL) : TL := fun σ H R => te σ H fun v H1 => t σ H1 fun C vs H2 => R C (v :: vs) H2
def tlLam (T : List (Addr × Str)) (q : Str) (n : Nat) (tb : TE) (put : L2.St → List V → L2.St) : TL := fun σ H R => Tabs T H ∧ ∀ (f c' : Addr) (H2 : Hp) (C : Addr → Sp → Prop), ExtN H H2 → Tabs T H2 → H2 c' = some (CodeO c' q) →
  C f (fun vs HZ Q _ => vs.length = n ∧ HZ c' = some (CodeO c' q) ∧ tb (put σ vs) HZ Q) → R C [.ref f] H2
/-- x(e, .., lambda p: body) -/
def tCallL (sp : (Addr → Sp → Prop) → Sp) (E : XK) (t : TL) : TE := fun σ H Q => t σ H fun C vs H1 => sp C vs H1 Q E
section
variable {X : Cx} {T : List (Addr × Str)} {k kc kb : Nat} {x : Str} {g c P : Addr} {fd : FuncData} {ps lp : List Str} {sp : (Addr → Sp → Prop) → Sp} {E : XK} {te tb : TE} {t : TL} {e body : Expr} {es : List Expr} {params : Arguments} {scope : Scope} {p lpos pos : Pos} {put : L2.St → List V → L2.St}
theorem pl_cons (he : PE X e te) (h : PL X kc es t) (hs : starEach (e :: es) X.env = (false, eval e X.env) :: starEach es X.env := by rfl) : PL X kc (e :: es) (tlCons te t) := by
  refine ⟨fun pos pins s σ H R I q => ?_⟩
  rw [hs]
  exact Calls.spliced_cons (thn (he.run pins s σ H _ I q) fun u s1 ⟨v, H1, I1, r1, q1⟩ => thn (h.run pos pins s1 σ H1 _ I1 q1) fun us s2 ⟨vs, H2, I2, r2, q2⟩ => ⟨v :: vs, H2, I2, .cons r1 r2, q2⟩)
theorem pl_lam (TB : TabB X.base X.mg c P) (hcode : X.env.code = .ref c) (hmT : (P, X.env.qual ++ "<lambda>") ∈ T) (hu : ∀ p ∈ T, p.1 = P → p.2 = X.env.qual ++ "<lambda>") (L : LamP X.env.scope scope lp) (hdef : defaultsOf params X.env = ([], [])) (hkc : kc = kb + 1)
    (hbind : ∀ (q : Str) (cl : List (Str × Addr)) (pm cv ctv : Value) (us : List Value), us.length = lp.length → bindArgs (PySem.W.kla_fn "<lambda>" q params body scope cl pm cv ctv) ⟨us, []⟩ = pure (lp.zip us))
    (hput : ∀ (σ : L2.St) vs us, Vals vs us → us.length = lp.length → Slots X lp us σ (put σ vs))
    (hbody : ∀ (A : Around) (outer : List Env) (s : Shared) (H : Hp) (E : XK) (f c' : Addr), Room kb (A.deeper (lamEnv X scope s.heap.objs.size f c')) → PE (lamCx X A outer s H E scope f c') body tb) :
    PL X kc [.Lambda params body scope lpos] (tlLam T (X.env.qual ++ "<lambda>") lp.length tb put) := by
  subst hkc
  refine ⟨fun pos pins s σ H R I h => ?_⟩
  obtain ⟨hT, h⟩ := h
  show wpAny _ _ (spliced ((false, eval (.Lambda params body scope lpos) X.env) :: backTo pos (starEach [] X.env))) _ _ s
  refine Calls.spliced_cons (lam_make2 I TB hcode hmT hu hT hdef (L.has I.ok) fun f c' pm' ctv H1 s' I1 eN T1 hf hfn hfr hco => ?_)
  refine Calls.spliced_nil ⟨[.ref f], H1, I1, .cons rfl .nil, h f c' H1 _ eN T1 hco ?_⟩
  have C := clo_of (put := put σ) I1 L hf hfn hfr (hbind _ _ _ _ _) (hput σ) fun A outer s H E hr => hbody A outer s H E f c' hr
  exact C
theorem pe_callL (F : FnC X.prog X.w X.K X.mg X.base k g fd ps kc sp) (hr : Room k X.A) (hg : Gl X x) (hm : X.mg x = some (.ref g)) (hk : PySem.W.keepIn X.K (.ref g) = true) (hb : L2.Binds X.K fd ps []) (hx : Passes CX0 X E) (ha : PL X kc (e :: es) t)
    (hdb : (x == ("__debug__" : Str)) = false := by decide) (he : starEach (e :: es) X.env = (false, eval e X.env) :: starEach es X.env := by rfl) (hpl : (backTo pos (starEach es X.env)).any (·.1) = false := by rfl) :
    PE X (.Call (.Name x p) (e :: es) [] pos) (tCallL sp E t) := by
  refine ⟨fun pins s σ H Q I h => ?_⟩
  refine wpAny_Call_Name_kw (ld_glob I hg hm ?_ hdb)
  refine PySem.W.callWith_K (h₀ := X.base) I.ok.mod.kin hk (thn (ha.run pos pins s σ H _ I h) fun us s1 ⟨vs, H1, I1, r, q⟩ => ⟨I1.kIn, ?_⟩) he hpl
  have hl : (us ++ []).length = ps.length := by rw [List.append_nil, ← r.length]; exact F.len _ _ _ _ _ q
  have b := hb s1 us I1.kIn hl
  rw [List.append_nil] at b
  refine wpAny_call (codeAny_mono (F.run X.A X.stack s1 H1 ⟨us, []⟩ us vs Q E hr I1.env0 b r q) fun r s' z => ?_)
  match r, z with
  | .error v, z => exact hx pins σ H1 s1 v s' I1 z
  | .ok (.ret u), z => exact I1.after z
  | .ok .next, z => exact z.elim
  | .ok .brk, z => exact z.elim
  | .ok .cont, z => exact z.elim
end
/-! ### a maker of lambdas by its body: its code object is the one at c -/
section
variable {P : Program} {w : World} {K : PySem.W.Frag} {mg : Str → Option Value} {base : Heap}
theorem okM {x qual : Str} {st : Stmt} {f c : Addr} {fd : FuncData} {N ps : List Str} {k : Nat} {sp : Sp} (F : Fun K x qual st f fd) (hc : fd.code = .ref c) (S : FnScope N ps (defScope st)) (len : ∀ vs H Q E, sp vs H Q E → vs.length = ps.length)
    (hb : ∀ (A : Around) (out : List Env) (s : Shared) (H : Hp) (vs : List V) (Q : VK) (E : XK), Room k (A.deeper (envOfC qual (defScope st) s.heap.objs.size f (.ref c))) → sp vs H Q E →
      ∃ t, PSs (cxOf (L2.CX P w) P w K mg base N qual (defScope st) f (.ref c) A out s H E) (defBody st) t ∧ t { nx := fun _ H' => Q .non H', rt := Q } (start N vs) H) : FnOk P w K mg base (L2.CX P w) (k + 1) f fd ps sp := by
  obtain ⟨_, _, _, _, _, _, cdv, _, _, rfl, lk, hcd⟩ := F.ex
  have e : cdv = .ref c := hc
  subst e
  exact fn_of lk hcd S len fun A out s H vs Q E hr h => hb A out s H vs Q E hr h
end
theorem u65 {k : Nat} {A : PySem.Around} (h : L2.Room k A) : A.units + 65 < PySem.cLine := by have := h.un; omega
section
variable {σ : L2.St} {H : Hp}
theorem callL {sp : (Addr → Sp → Prop) → Sp} {E : XK} {t : TL} {Q : VK} (h : t σ H fun C vs H1 => sp C vs H1 Q E) : tCallL sp E t σ H Q := h
theorem lcons {te : TE} {t : TL} {R : (Addr → Sp → Prop) → List V → Hp → Prop} (h : te σ H fun v H1 => t σ H1 fun C vs H2 => R C (v :: vs) H2) : tlCons te t σ H R := h
theorem llam {T : List (Addr × Str)} {q : Str} {n : Nat} {tb : TE} {put : L2.St → List V → L2.St} {R : (Addr → Sp → Prop) → List V → Hp → Prop} (hT : Tabs T H) (h : ∀ (f c' : Addr) (H2 : Hp) (C : Addr → Sp → Prop), ExtN H H2 → Tabs T H2 → H2 c' = some (CodeO c' q) →
  C f (fun vs HZ Q _ => vs.length = n ∧ HZ c' = some (CodeO c' q) ∧ tb (put σ vs) HZ Q) → R C [.ref f] H2) : tlLam T q n tb put σ H R := ⟨hT, h⟩
theorem seq_ext {K : PySem.W.Frag} {H H' : Hp} (e : ExtN H H') {a : Addr} {xs : List V} (h : SqL K H a xs) : SqL K H' a xs := by
  rcases h with (h | ⟨o, h⟩) | h
  · exact .inl (.inl (e _ _ h fun _ q => nomatch q))
  · exact .inl (.inr ⟨o, e _ _ h fun _ q => nomatch q⟩)
  · exact .inr h
theorem tup_ext {K : PySem.W.Frag} {H H' : Hp} (e : ExtN H H') {a : Addr} {xs : List V} (h : SqT K H a xs) : SqT K H' a xs := by
  rcases h with (h | ⟨o, h⟩) | h
  · exact .inl (.inl (e _ _ h fun _ q => nomatch q))
  · exact .inl (.inr ⟨o, e _ _ h fun _ q => nomatch q⟩)
  · exact .inr h
theorem row_ext {K : PySem.W.Frag} {H H' : Hp} (e : ExtN H H') {a : Addr} {xs : List V} (h : Ru.SqR K H a xs) : Ru.SqR K H' a xs := h.imp (seq_ext e) (tup_ext e)
theorem row_same {K : PySem.W.Frag} {H H' : Hp} (s : Same H H') {a : Addr} {xs : List V} (h : Ru.SqR K H a xs) : Ru.SqR K H' a xs := h.imp s.seq (Ru.same_tup s)
theorem lst_ext {H H' : Hp} (e : ExtN H H') {a : Addr} {xs : List V} (h : H a = some (.lst xs)) : H' a = some (.lst xs) := e _ _ h fun _ q => nomatch q
theorem tp_ext {H H' : Hp} (e : ExtN H H') {a : Addr} {xs : List V} (h : H a = some (.tup xs)) : H' a = some (.tup xs) := e _ _ h fun _ q => nomatch q
theorem ins_ext {H H' : Hp} (e : ExtN H H') {a C dx : Addr} {fs : List (Str × V)} (h : H a = some (.ins C dx fs)) : H' a = some (.ins C dx fs) := e _ _ h fun _ q => nomatch q
theorem ext_same {H H1 H2 : Hp} (e : ExtN H H1) (s : Same H1 H2) : ExtN H H2 := e.trans (ExtN.of s)
theorem same_ext {H H1 H2 : Hp} (s : Same H H1) (e : ExtN H1 H2) : ExtN H H2 := (ExtN.of s).trans e
end
theorem catA {K : PySem.W.Frag} {H : Hp} {a b : Addr} {xs ys : List V} {Q : VK} (h1 : SqT K H a xs) (h2 : SqT K H b ys) (hy : ys ≠ []) (hz : xs.length + ys.length ≤ sizeLine) (k : ∀ (r : Addr) (G : Hp), Same H G → SqT K G r (xs ++ ys) → Q (.ref r) G) : rCatA K (.ref a) (.ref b) H Q :=
  ⟨a, b, xs, ys, rfl, rfl, h1, h2, hz, fun e => k b H (Same.refl _) (by rw [e]; exact h2), fun _ e => absurd e hy, fun _ _ p n => k p _ (Rd.same_upd n) (.of upd_same)⟩
/-- all but lists are kept -/
def NoL (H H' : Hp) : Prop := ∀ b o, H b = some o → (∀ xs, o ≠ .lst xs) → H' b = some o
theorem NoL.same {H H' : Hp} (s : Same H H') : NoL H H' := fun b o e _ => s b o e
theorem NoL.off {H H' : Hp} {l : Addr} {xs : List V} (h : H l = some (.lst xs)) (off : ∀ b, b ≠ l → H' b = H b) : NoL H H' := fun b o e n => by
  rw [off b fun q => n xs (by rw [q, h] at e; exact (Option.some.inj e).symm)]
  exact e
theorem NoL.but {H H' : Hp} {t : Addr} {xs : List V} (h : H t = some (.lst xs)) (b : Rd.But t H H') : NoL H H' := fun a o e n => by
  exact b a o (fun q => n _ (by rw [q, h] at e; exact (Option.some.inj e).symm)) e
theorem NoL.trans {H H1 H2 : Hp} (a : NoL H H1) (b : NoL H1 H2) : NoL H H2 := fun x o e n => b x o (a x o e n) n
theorem NoL.tup {H H' : Hp} (n : NoL H H') {a : Addr} {xs : List V} (h : H a = some (.tup xs)) : H' a = some (.tup xs) := n _ _ h fun _ q => nomatch q
theorem NoL.ins {H H' : Hp} (n : NoL H H') {a C dx : Addr} {fs : List (Str × V)} (h : H a = some (.ins C dx fs)) : H' a = some (.ins C dx fs) := n _ _ h fun _ q => nomatch q
theorem tabs_nol {T : List (Addr × Str)} {H H' : Hp} (t : Tabs T H) (e : NoL H H') : Tabs T H' := fun p hp => by
  obtain ⟨ps, h1, h2, h3⟩ := t p hp
  refine ⟨ps, (e _ _ h1 fun _ q => nomatch q), h2, fun pos cv hc => ?_⟩
  obtain ⟨c, e1, e2⟩ := h3 pos cv hc
  exact ⟨c, e1, e _ _ e2 fun xs q => by
    unfold CodeO at q
    cases q⟩
/-- enumerate(list), in a comprehension -/
theorem walk_enum {K : PySem.W.Frag} {a : Addr} {xs : List V} : Walk (Ite K a) xs.length (fun H => SqL K H a xs) (fun i H v H' => ∃ T x, v = .ref T ∧ H T = none ∧ H' = upd H T (.tup [.int (i : Nat), x]) ∧ xs[i]? = some x) where
  goes i H l h := ⟨xs, xs[i], h, List.getElem?_eq_getElem l⟩
  stops H h := ⟨xs, h, Nat.le_refl _⟩
  yields i H v H' l h y := by
    obtain ⟨T, x, rfl, hT, rfl, q⟩ := y
    exact ⟨T, x, rfl, hT, rfl, q xs h⟩
/-- the table of a code object of the part K -/
theorem tab_K {K : PySem.W.Frag} {h : Heap} {c P : Addr} (X : K.In h) (e : PySem.W.codeHdIn K c P = true) : PySem.W.CodeHd h c P := PySem.W.codeHd_of_K X e
end Rk

namespace W
open PySem PySem.Spec PyProof.Rows L2
def top (i : Nat) : Stmt := PySem.Challenge.pw_watchedways_k87_whole_lone_and_far.main.body.getD i (.Pass ⟨0, 0, 0, 0⟩)
abbrev s_is_integer : Stmt := top 16
abbrev s_is_letters : Stmt := top 17
abbrev s_is_word : Stmt := top 18
abbrev s_is_watch : Stmt := top 19
abbrev s_check_word : Stmt := top 20
abbrev s_text_key : Stmt := top 21
abbrev s_in_order : Stmt := top 22
abbrev s_Book_init : Stmt := inClass (top 38) 0
abbrev s_Book_with_watch : Stmt := inClass (top 38) 3
abbrev s_check_book : Stmt := top 39
abbrev s_renamed : Stmt := top 43
abbrev s_fresh_state : Stmt := top 44
abbrev s_with_letter : Stmt := top 45
abbrev s_with_letters : Stmt := top 46
abbrev s_is_met : Stmt := top 47
abbrev s_flags_of : Stmt := top 49
abbrev s_least_round : Stmt := top 50
abbrev s_check_parts : Stmt := top 48
abbrev s_powers : Stmt := top 51
abbrev s_far_told : Stmt := top 52
abbrev s_common : Stmt := top 24
abbrev s_check_lengths : Stmt := top 29
abbrev s_divisor_of : Stmt := top 30
abbrev s_far_from : Stmt := top 31
abbrev s_steps_reach : Stmt := top 32
abbrev s_is_reached : Stmt := top 33
abbrev s_lone_told : Stmt := top 34
abbrev s_lone_gaps : Stmt := top 35
abbrev s_links_of : Stmt := top 54
abbrev s_grown : Stmt := top 55
abbrev s_leads : Stmt := top 56
abbrev s_is_told : Stmt := top 57
abbrev s_distances : Stmt := top 58
abbrev s_shortest : Stmt := top 59
abbrev s_zigzag : Stmt := top 60
abbrev s_check_words : Stmt := top 65
abbrev s_leads_all : Stmt := top 66
abbrev s_tells : Stmt := top 67
abbrev s_needless : Stmt := top 68
abbrev s_told_words : Stmt := top 69
abbrev s_l_flag : Stmt := top 71
abbrev s_l_tape : Stmt := top 72
abbrev s_l_pick : Stmt := top 73
abbrev s_l_common : Stmt := top 74
abbrev s_l_divisor : Stmt := top 75
abbrev s_l_reach : Stmt := top 76
abbrev s_l_flag_at : Stmt := top 78
abbrev s_law : Stmt := top 79
theorem sc_is_integer : FnScope ["value"] ["value"] (defScope s_is_integer) := ⟨rfl, rfl, rfl, by decide +kernel, rfl, by decide +kernel, by decide +kernel⟩
theorem sc_is_letters : FnScope ["value", "letter"] ["value"] (defScope s_is_letters) := ⟨rfl, rfl, rfl, by decide +kernel, rfl, by decide +kernel, by decide +kernel⟩
theorem sc_is_word : FnScope ["thing"] ["thing"] (defScope s_is_word) := ⟨rfl, rfl, rfl, by decide +kernel, rfl, by decide +kernel, by decide +kernel⟩
theorem sc_is_watch : FnScope ["thing"] ["thing"] (defScope s_is_watch) := ⟨rfl, rfl, rfl, by decide +kernel, rfl, by decide +kernel, by decide +kernel⟩
theorem sc_check_word : FnScope ["word"] ["word"] (defScope s_check_word) := ⟨rfl, rfl, rfl, by decide +kernel, rfl, by decide +kernel, by decide +kernel⟩
theorem sc_text_key : FnScope ["text"] ["text"] (defScope s_text_key) := ⟨rfl, rfl, rfl, by decide +kernel, rfl, by decide +kernel, by decide +kernel⟩
theorem sc_in_order : FnScope ["texts"] ["texts"] (defScope s_in_order) := ⟨rfl, rfl, rfl, by decide +kernel, rfl, by decide +kernel, by decide +kernel⟩
theorem sc_Book_init : FnScope ["self", "watches", "found", "at", "watch"] ["self", "watches"] (defScope s_Book_init) := ⟨rfl, rfl, rfl, by decide +kernel, rfl, by decide +kernel, by decide +kernel⟩
theorem sc_Book_with_watch : FnScope ["self", "watch"] ["self", "watch"] (defScope s_Book_with_watch) := ⟨rfl, rfl, rfl, by decide +kernel, rfl, by decide +kernel, by decide +kernel⟩
theorem sc_check_book : FnScope ["book"] ["book"] (defScope s_check_book) := ⟨rfl, rfl, rfl, by decide +kernel, rfl, by decide +kernel, by decide +kernel⟩
theorem sc_renamed : FnScope ["marks", "first", "mark"] ["marks"] (defScope s_renamed) := ⟨rfl, rfl, rfl, by decide +kernel, rfl, by decide +kernel, by decide +kernel⟩
theorem sc_fresh_state : FnScope [] [] (defScope s_fresh_state) := ⟨rfl, rfl, rfl, by decide +kernel, rfl, by decide +kernel, by decide +kernel⟩
theorem sc_with_letter : FnScope ["watches", "state", "letter", "letters", "marks", "watch", "joined", "kept", "mark"] ["watches", "state", "letter"] (defScope s_with_letter) := ⟨rfl, rfl, rfl, by decide +kernel, rfl, by decide +kernel, by decide +kernel⟩
theorem sc_with_letters : FnScope ["watches", "state", "letters", "letter"] ["watches", "state", "letters"] (defScope s_with_letters) := ⟨rfl, rfl, rfl, by decide +kernel, rfl, by decide +kernel, by decide +kernel⟩
theorem sc_is_met : FnScope ["state"] ["state"] (defScope s_is_met) := ⟨rfl, rfl, rfl, by decide +kernel, rfl, by decide +kernel, by decide +kernel⟩
theorem sc_flags_of : FnScope ["book", "before", "middle", "behind", "state", "seen", "flags"] ["book", "before", "middle", "behind"] (defScope s_flags_of) := ⟨rfl, rfl, rfl, by decide +kernel, rfl, by decide +kernel, by decide +kernel⟩
theorem sc_least_round : FnScope ["flags", "size"] ["flags"] (defScope s_least_round) := ⟨rfl, rfl, rfl, by decide +kernel, rfl, by decide +kernel, by decide +kernel⟩
theorem sc_check_parts : FnScope ["before", "middle", "behind", "at", "part"] ["before", "middle", "behind"] (defScope s_check_parts) := ⟨rfl, rfl, rfl, by decide +kernel, rfl, by decide +kernel, by decide +kernel⟩
theorem sc_powers : FnScope ["book", "before", "middle", "behind", "flags", "start", "ahead", "again"] ["book", "before", "middle", "behind"] (defScope s_powers) := ⟨rfl, rfl, rfl, by decide +kernel, rfl, by decide +kernel, by decide +kernel⟩
theorem sc_far_told : FnScope ["book", "before", "middle", "behind", "times", "flags", "start"] ["book", "before", "middle", "behind", "times"] (defScope s_far_told) := ⟨rfl, rfl, rfl, by decide +kernel, rfl, by decide +kernel, by decide +kernel⟩
theorem sc_common : FnScope ["one", "other"] ["one", "other"] (defScope s_common) := ⟨rfl, rfl, rfl, by decide +kernel, rfl, by decide +kernel, by decide +kernel⟩
theorem sc_check_lengths : FnScope ["lengths", "at", "length"] ["lengths"] (defScope s_check_lengths) := ⟨rfl, rfl, rfl, by decide +kernel, rfl, by decide +kernel, by decide +kernel⟩
theorem sc_divisor_of : FnScope ["lengths", "found", "length"] ["lengths"] (defScope s_divisor_of) := ⟨rfl, rfl, rfl, by decide +kernel, rfl, by decide +kernel, by decide +kernel⟩
theorem sc_far_from : FnScope ["lengths"] ["lengths"] (defScope s_far_from) := ⟨rfl, rfl, rfl, by decide +kernel, rfl, by decide +kernel, by decide +kernel⟩
theorem sc_steps_reach : FnScope ["lengths", "last", "met", "found", "at", "length", "spot"] ["lengths", "last"] (defScope s_steps_reach) := ⟨rfl, rfl, rfl, by decide +kernel, rfl, by decide +kernel, by decide +kernel⟩
theorem sc_is_reached : FnScope ["lengths", "last"] ["lengths", "last"] (defScope s_is_reached) := ⟨rfl, rfl, rfl, by decide +kernel, rfl, by decide +kernel, by decide +kernel⟩
theorem sc_lone_told : FnScope ["lengths", "last"] ["lengths", "last"] (defScope s_lone_told) := ⟨rfl, rfl, rfl, by decide +kernel, rfl, by decide +kernel, by decide +kernel⟩
theorem sc_lone_gaps : FnScope ["lengths", "part", "last"] ["lengths"] (defScope s_lone_gaps) := ⟨rfl, rfl, rfl, by decide +kernel, rfl, by decide +kernel, by decide +kernel⟩
theorem sc_links_of : FnScope ["watches", "word", "spot", "found", "watch", "row"] ["watches", "word"] (defScope s_links_of) := ⟨rfl, rfl, rfl, by decide +kernel, rfl, by decide +kernel, by decide +kernel⟩
theorem sc_grown : FnScope ["links", "spots", "found", "at", "spot"] ["links", "spots"] (defScope s_grown) := ⟨rfl, rfl, rfl, by decide +kernel, rfl, by decide +kernel, by decide +kernel⟩
theorem sc_leads : FnScope ["watches", "word"] ["watches", "word"] (defScope s_leads) := ⟨rfl, rfl, rfl, by decide +kernel, rfl, by decide +kernel, by decide +kernel⟩
theorem sc_is_told : FnScope ["book", "word"] ["book", "word"] (defScope s_is_told) := ⟨rfl, rfl, rfl, by decide +kernel, rfl, by decide +kernel, by decide +kernel⟩
theorem sc_distances : FnScope ["links", "found", "row", "later", "spot", "other"] ["links"] (defScope s_distances) := ⟨rfl, rfl, rfl, by decide +kernel, rfl, by decide +kernel, by decide +kernel⟩
theorem sc_shortest : FnScope ["watches", "word", "links", "far", "found", "spot", "other"] ["watches", "word"] (defScope s_shortest) := ⟨rfl, rfl, rfl, by decide +kernel, rfl, by decide +kernel, by decide +kernel⟩
theorem sc_zigzag : FnScope ["book", "word"] ["book", "word"] (defScope s_zigzag) := ⟨rfl, rfl, rfl, by decide +kernel, rfl, by decide +kernel, by decide +kernel⟩
theorem sc_check_words : FnScope ["words", "at", "word"] ["words"] (defScope s_check_words) := ⟨rfl, rfl, rfl, by decide +kernel, rfl, by decide +kernel, by decide +kernel⟩
theorem sc_leads_all : FnScope ["watches", "words", "word"] ["watches", "words"] (defScope s_leads_all) := ⟨rfl, rfl, rfl, by decide +kernel, rfl, by decide +kernel, by decide +kernel⟩
theorem sc_tells : FnScope ["book", "words"] ["book", "words"] (defScope s_tells) := ⟨rfl, rfl, rfl, by decide +kernel, rfl, by decide +kernel, by decide +kernel⟩
theorem sc_needless : FnScope ["book", "found", "watch", "other"] ["book"] (defScope s_needless) := ⟨rfl, rfl, rfl, by decide +kernel, rfl, by decide +kernel, by decide +kernel⟩
theorem sc_told_words : FnScope ["book", "letters", "most", "found", "words", "size", "word", "letter"] ["book", "letters", "most"] (defScope s_told_words) := ⟨rfl, rfl, rfl, by decide +kernel, rfl, by decide +kernel, by decide +kernel⟩
theorem sc_l_flag : FnScope ["_law_told", "_law_due"] ["_law_told", "_law_due"] (defScope s_l_flag) := ⟨rfl, rfl, rfl, by decide +kernel, rfl, by decide +kernel, by decide +kernel⟩
theorem sc_l_tape : FnScope ["_law_script"] ["_law_script"] (defScope s_l_tape) := ⟨rfl, rfl, rfl, by decide +kernel, rfl, by decide +kernel, by decide +kernel⟩
theorem sc_l_pick : FnScope ["_law_tape_here", "_law_size", "_law_digit", "_law_cell", "_law_mixed"] ["_law_tape_here", "_law_size"] (defScope s_l_pick) := ⟨rfl, rfl, rfl, by decide +kernel, rfl, by decide +kernel, by decide +kernel⟩
theorem sc_l_common : FnScope ["_law_one", "_law_other", "_law_turn", "_law_rest"] ["_law_one", "_law_other"] (defScope s_l_common) := ⟨rfl, rfl, rfl, by decide +kernel, rfl, by decide +kernel, by decide +kernel⟩
theorem sc_l_divisor : FnScope ["_law_lengths_here", "_law_part", "_law_length"] ["_law_lengths_here"] (defScope s_l_divisor) := ⟨rfl, rfl, rfl, by decide +kernel, rfl, by decide +kernel, by decide +kernel⟩
theorem sc_l_reach : FnScope ["_law_lengths_here", "_law_last", "_law_reached", "_law_met", "_law_at", "_law_length", "_law_other"] ["_law_lengths_here", "_law_last"] (defScope s_l_reach) := ⟨rfl, rfl, rfl, by decide +kernel, rfl, by decide +kernel, by decide +kernel⟩
theorem sc_l_flag_at : FnScope ["_law_told", "_law_times", "_law_ahead", "_law_again"] ["_law_told", "_law_times"] (defScope s_l_flag_at) := ⟨rfl, rfl, rfl, by decide +kernel, rfl, by decide +kernel, by decide +kernel⟩
theorem sc_law : FnScope ["_law_script", "_law_tape_here", "_law_letter", "_law_lengths_here", "_law_k", "_law_length", "_law_book", "_law_parts", "_law_before", "_law_middle", "_law_behind", "_law_told", "_law_times", "_law_whole", "_law_due", "_law_gaps", "_law_size", "_law_word", "_law_watch", "_law_rest", "_law_more", "_law_one"] ["_law_script"] (defScope s_law) := ⟨rfl, rfl, rfl, by decide +kernel, rfl, by decide +kernel, by decide +kernel⟩
structure Txt (K : PySem.W.Frag) (mg : Str → Option Value) where
  C_Book : Addr
  c_Book : mg "Book" = some (.ref C_Book)
  cl_Book : Cls K C_Book
  ty_Book : OwnTy K C_Book
  na_Book_watches : NoAttr K C_Book "watches"
  f_is_integer : Addr
  fd_is_integer : FuncData
  F_is_integer : Fun K "is_integer" "is_integer" s_is_integer f_is_integer fd_is_integer
  g_is_integer : mg "is_integer" = some (.ref f_is_integer)
  b_is_integer : Binds K fd_is_integer ["value"] []
  f_is_letters : Addr
  fd_is_letters : FuncData
  F_is_letters : Fun K "is_letters" "is_letters" s_is_letters f_is_letters fd_is_letters
  g_is_letters : mg "is_letters" = some (.ref f_is_letters)
  b_is_letters : Binds K fd_is_letters ["value"] []
  f_is_word : Addr
  fd_is_word : FuncData
  F_is_word : Fun K "is_word" "is_word" s_is_word f_is_word fd_is_word
  g_is_word : mg "is_word" = some (.ref f_is_word)
  b_is_word : Binds K fd_is_word ["thing"] []
  f_is_watch : Addr
  fd_is_watch : FuncData
  F_is_watch : Fun K "is_watch" "is_watch" s_is_watch f_is_watch fd_is_watch
  g_is_watch : mg "is_watch" = some (.ref f_is_watch)
  b_is_watch : Binds K fd_is_watch ["thing"] []
  f_check_word : Addr
  fd_check_word : FuncData
  F_check_word : Fun K "check_word" "check_word" s_check_word f_check_word fd_check_word
  g_check_word : mg "check_word" = some (.ref f_check_word)
  b_check_word : Binds K fd_check_word ["word"] []
  f_text_key : Addr
  fd_text_key : FuncData
  F_text_key : Fun K "text_key" "text_key" s_text_key f_text_key fd_text_key
  g_text_key : mg "text_key" = some (.ref f_text_key)
  b_text_key : Binds K fd_text_key ["text"] []
  f_in_order : Addr
  fd_in_order : FuncData
  F_in_order : Fun K "in_order" "in_order" s_in_order f_in_order fd_in_order
  g_in_order : mg "in_order" = some (.ref f_in_order)
  b_in_order : Binds K fd_in_order ["texts"] []
  f_Book_init : Addr
  fd_Book_init : FuncData
  F_Book_init : Fun K "__init__" "Book.__init__" s_Book_init f_Book_init fd_Book_init
  M_Book : Mk K C_Book f_Book_init
  b_Book_init : Binds K fd_Book_init ["self", "watches"] []
  f_Book_with_watch : Addr
  fd_Book_with_watch : FuncData
  F_Book_with_watch : Fun K "with_watch" "Book.with_watch" s_Book_with_watch f_Book_with_watch fd_Book_with_watch
  h_Book_with_watch : Meth K C_Book "with_watch" f_Book_with_watch
  b_Book_with_watch : Binds K fd_Book_with_watch ["self", "watch"] []
  f_check_book : Addr
  fd_check_book : FuncData
  F_check_book : Fun K "check_book" "check_book" s_check_book f_check_book fd_check_book
  g_check_book : mg "check_book" = some (.ref f_check_book)
  b_check_book : Binds K fd_check_book ["book"] []
  f_renamed : Addr
  fd_renamed : FuncData
  F_renamed : Fun K "renamed" "renamed" s_renamed f_renamed fd_renamed
  g_renamed : mg "renamed" = some (.ref f_renamed)
  b_renamed : Binds K fd_renamed ["marks"] []
  f_fresh_state : Addr
  fd_fresh_state : FuncData
  F_fresh_state : Fun K "fresh_state" "fresh_state" s_fresh_state f_fresh_state fd_fresh_state
  g_fresh_state : mg "fresh_state" = some (.ref f_fresh_state)
  b_fresh_state : Binds K fd_fresh_state [] []
  f_with_letter : Addr
  fd_with_letter : FuncData
  F_with_letter : Fun K "with_letter" "with_letter" s_with_letter f_with_letter fd_with_letter
  g_with_letter : mg "with_letter" = some (.ref f_with_letter)
  b_with_letter : Binds K fd_with_letter ["watches", "state", "letter"] []
  f_with_letters : Addr
  fd_with_letters : FuncData
  F_with_letters : Fun K "with_letters" "with_letters" s_with_letters f_with_letters fd_with_letters
  g_with_letters : mg "with_letters" = some (.ref f_with_letters)
  b_with_letters : Binds K fd_with_letters ["watches", "state", "letters"] []
  f_is_met : Addr
  fd_is_met : FuncData
  F_is_met : Fun K "is_met" "is_met" s_is_met f_is_met fd_is_met
  g_is_met : mg "is_met" = some (.ref f_is_met)
  b_is_met : Binds K fd_is_met ["state"] []
  f_flags_of : Addr
  fd_flags_of : FuncData
  F_flags_of : Fun K "flags_of" "flags_of" s_flags_of f_flags_of fd_flags_of
  g_flags_of : mg "flags_of" = some (.ref f_flags_of)
  b_flags_of : Binds K fd_flags_of ["book", "before", "middle", "behind"] []
  f_least_round : Addr
  fd_least_round : FuncData
  F_least_round : Fun K "least_round" "least_round" s_least_round f_least_round fd_least_round
  g_least_round : mg "least_round" = some (.ref f_least_round)
  b_least_round : Binds K fd_least_round ["flags"] []
  f_check_parts : Addr
  fd_check_parts : FuncData
  F_check_parts : Fun K "check_parts" "check_parts" s_check_parts f_check_parts fd_check_parts
  g_check_parts : mg "check_parts" = some (.ref f_check_parts)
  b_check_parts : Binds K fd_check_parts ["before", "middle", "behind"] []
  f_powers : Addr
  fd_powers : FuncData
  F_powers : Fun K "powers" "powers" s_powers f_powers fd_powers
  g_powers : mg "powers" = some (.ref f_powers)
  b_powers : Binds K fd_powers ["book", "before", "middle", "behind"] []
  f_far_told : Addr
  fd_far_told : FuncData
  F_far_told : Fun K "far_told" "far_told" s_far_told f_far_told fd_far_told
  g_far_told : mg "far_told" = some (.ref f_far_told)
  b_far_told : Binds K fd_far_told ["book", "before", "middle", "behind", "times"] []
  f_common : Addr
  fd_common : FuncData
  F_common : Fun K "common" "common" s_common f_common fd_common
  g_common : mg "common" = some (.ref f_common)
  b_common : Binds K fd_common ["one", "other"] []
  f_check_lengths : Addr
  fd_check_lengths : FuncData
  F_check_lengths : Fun K "check_lengths" "check_lengths" s_check_lengths f_check_lengths fd_check_lengths
  g_check_lengths : mg "check_lengths" = some (.ref f_check_lengths)
  b_check_lengths : Binds K fd_check_lengths ["lengths"] []
  f_divisor_of : Addr
  fd_divisor_of : FuncData
  F_divisor_of : Fun K "divisor_of" "divisor_of" s_divisor_of f_divisor_of fd_divisor_of
  g_divisor_of : mg "divisor_of" = some (.ref f_divisor_of)
  b_divisor_of : Binds K fd_divisor_of ["lengths"] []
  f_far_from : Addr
  fd_far_from : FuncData
  F_far_from : Fun K "far_from" "far_from" s_far_from f_far_from fd_far_from
  g_far_from : mg "far_from" = some (.ref f_far_from)
  b_far_from : Binds K fd_far_from ["lengths"] []
  f_steps_reach : Addr
  fd_steps_reach : FuncData
  F_steps_reach : Fun K "steps_reach" "steps_reach" s_steps_reach f_steps_reach fd_steps_reach
  g_steps_reach : mg "steps_reach" = some (.ref f_steps_reach)
  b_steps_reach : Binds K fd_steps_reach ["lengths", "last"] []
  f_is_reached : Addr
  fd_is_reached : FuncData
  F_is_reached : Fun K "is_reached" "is_reached" s_is_reached f_is_reached fd_is_reached
  g_is_reached : mg "is_reached" = some (.ref f_is_reached)
  b_is_reached : Binds K fd_is_reached ["lengths", "last"] []
  f_lone_told : Addr
  fd_lone_told : FuncData
  F_lone_told : Fun K "lone_told" "lone_told" s_lone_told f_lone_told fd_lone_told
  g_lone_told : mg "lone_told" = some (.ref f_lone_told)
  b_lone_told : Binds K fd_lone_told ["lengths", "last"] []
  f_lone_gaps : Addr
  fd_lone_gaps : FuncData
  F_lone_gaps : Fun K "lone_gaps" "lone_gaps" s_lone_gaps f_lone_gaps fd_lone_gaps
  g_lone_gaps : mg "lone_gaps" = some (.ref f_lone_gaps)
  b_lone_gaps : Binds K fd_lone_gaps ["lengths"] []
  f_links_of : Addr
  fd_links_of : FuncData
  F_links_of : Fun K "links_of" "links_of" s_links_of f_links_of fd_links_of
  g_links_of : mg "links_of" = some (.ref f_links_of)
  b_links_of : Binds K fd_links_of ["watches", "word"] []
  f_grown : Addr
  fd_grown : FuncData
  F_grown : Fun K "grown" "grown" s_grown f_grown fd_grown
  g_grown : mg "grown" = some (.ref f_grown)
  b_grown : Binds K fd_grown ["links", "spots"] []
  f_leads : Addr
  fd_leads : FuncData
  F_leads : Fun K "leads" "leads" s_leads f_leads fd_leads
  g_leads : mg "leads" = some (.ref f_leads)
  b_leads : Binds K fd_leads ["watches", "word"] []
  f_is_told : Addr
  fd_is_told : FuncData
  F_is_told : Fun K "is_told" "is_told" s_is_told f_is_told fd_is_told
  g_is_told : mg "is_told" = some (.ref f_is_told)
  b_is_told : Binds K fd_is_told ["book", "word"] []
  f_distances : Addr
  fd_distances : FuncData
  F_distances : Fun K "distances" "distances" s_distances f_distances fd_distances
  g_distances : mg "distances" = some (.ref f_distances)
  b_distances : Binds K fd_distances ["links"] []
  f_shortest : Addr
  fd_shortest : FuncData
  F_shortest : Fun K "shortest" "shortest" s_shortest f_shortest fd_shortest
  g_shortest : mg "shortest" = some (.ref f_shortest)
  b_shortest : Binds K fd_shortest ["watches", "word"] []
  f_zigzag : Addr
  fd_zigzag : FuncData
  F_zigzag : Fun K "zigzag" "zigzag" s_zigzag f_zigzag fd_zigzag
  g_zigzag : mg "zigzag" = some (.ref f_zigzag)
  b_zigzag : Binds K fd_zigzag ["book", "word"] []
  f_check_words : Addr
  fd_check_words : FuncData
  F_check_words : Fun K "check_words" "check_words" s_check_words f_check_words fd_check_words
  g_check_words : mg "check_words" = some (.ref f_check_words)
  b_check_words : Binds K fd_check_words ["words"] []
  f_leads_all : Addr
  fd_leads_all : FuncData
  F_leads_all : Fun K "leads_all" "leads_all" s_leads_all f_leads_all fd_leads_all
  g_leads_all : mg "leads_all" = some (.ref f_leads_all)
  b_leads_all : Binds K fd_leads_all ["watches", "words"] []
  f_tells : Addr
  fd_tells : FuncData
  F_tells : Fun K "tells" "tells" s_tells f_tells fd_tells
  g_tells : mg "tells" = some (.ref f_tells)
  b_tells : Binds K fd_tells ["book", "words"] []
  f_needless : Addr
  fd_needless : FuncData
  F_needless : Fun K "needless" "needless" s_needless f_needless fd_needless
  g_needless : mg "needless" = some (.ref f_needless)
  b_needless : Binds K fd_needless ["book"] []
  f_told_words : Addr
  fd_told_words : FuncData
  F_told_words : Fun K "told_words" "told_words" s_told_words f_told_words fd_told_words
  g_told_words : mg "told_words" = some (.ref f_told_words)
  b_told_words : Binds K fd_told_words ["book", "letters", "most"] []
  f_l_flag : Addr
  fd_l_flag : FuncData
  F_l_flag : Fun K "_law_flag" "_law_flag" s_l_flag f_l_flag fd_l_flag
  g_l_flag : mg "_law_flag" = some (.ref f_l_flag)
  b_l_flag : Binds K fd_l_flag ["_law_told", "_law_due"] []
  f_l_tape : Addr
  fd_l_tape : FuncData
  F_l_tape : Fun K "_law_tape" "_law_tape" s_l_tape f_l_tape fd_l_tape
  g_l_tape : mg "_law_tape" = some (.ref f_l_tape)
  b_l_tape : Binds K fd_l_tape ["_law_script"] []
  f_l_pick : Addr
  fd_l_pick : FuncData
  F_l_pick : Fun K "_law_pick" "_law_pick" s_l_pick f_l_pick fd_l_pick
  g_l_pick : mg "_law_pick" = some (.ref f_l_pick)
  b_l_pick : Binds K fd_l_pick ["_law_tape_here", "_law_size"] []
  f_l_common : Addr
  fd_l_common : FuncData
  F_l_common : Fun K "_law_common" "_law_common" s_l_common f_l_common fd_l_common
  g_l_common : mg "_law_common" = some (.ref f_l_common)
  b_l_common : Binds K fd_l_common ["_law_one", "_law_other"] []
  f_l_divisor : Addr
  fd_l_divisor : FuncData
  F_l_divisor : Fun K "_law_divisor" "_law_divisor" s_l_divisor f_l_divisor fd_l_divisor
  g_l_divisor : mg "_law_divisor" = some (.ref f_l_divisor)
  b_l_divisor : Binds K fd_l_divisor ["_law_lengths_here"] []
  f_l_reach : Addr
  fd_l_reach : FuncData
  F_l_reach : Fun K "_law_reach" "_law_reach" s_l_reach f_l_reach fd_l_reach
  g_l_reach : mg "_law_reach" = some (.ref f_l_reach)
  b_l_reach : Binds K fd_l_reach ["_law_lengths_here", "_law_last"] []
  f_l_flag_at : Addr
  fd_l_flag_at : FuncData
  F_l_flag_at : Fun K "_law_flag_at" "_law_flag_at" s_l_flag_at f_l_flag_at fd_l_flag_at
  g_l_flag_at : mg "_law_flag_at" = some (.ref f_l_flag_at)
  b_l_flag_at : Binds K fd_l_flag_at ["_law_told", "_law_times"] []
  f_law : Addr
  fd_law : FuncData
  F_law : Fun K "law" "law" s_law f_law fd_law
  g_law : mg "law" = some (.ref f_law)
  b_law : Binds K fd_law ["_law_script"] []
  n_isinstance : mg "isinstance" = none
  n_int : mg "int" = none
  n_bool : mg "bool" = none
  n_str : mg "str" = none
  n_all : mg "all" = none
  n_len : mg "len" = none
  n_sorted : mg "sorted" = none
  n_enumerate : mg "enumerate" = none
  n_tuple : mg "tuple" = none
  n_list : mg "list" = none
  n_range : mg "range" = none
  n_abs : mg "abs" = none
  n_sum : mg "sum" = none
  n_set : mg "set" = none
  t_LETTERS : Tok
  m_LETTERS : mg "LETTERS" = some (.str "abcdefghijklmnopqrstuvwxyz" t_LETTERS)
  t_MOST_WORD : Tok
  m_MOST_WORD : mg "MOST_WORD" = some (.int 40 t_MOST_WORD)
  t_MOST_WATCH : Tok
  m_MOST_WATCH : mg "MOST_WATCH" = some (.int 12 t_MOST_WATCH)
  t_MOST_WATCHES : Tok
  m_MOST_WATCHES : mg "MOST_WATCHES" = some (.int 12 t_MOST_WATCHES)
  t_MOST_PART : Tok
  m_MOST_PART : mg "MOST_PART" = some (.int 20 t_MOST_PART)
  t_MOST_TIMES : Tok
  m_MOST_TIMES : mg "MOST_TIMES" = some (.int (10 ^ 30) t_MOST_TIMES)
  t_MOST_LENGTHS : Tok
  m_MOST_LENGTHS : mg "MOST_LENGTHS" = some (.int 8 t_MOST_LENGTHS)
  t_MOST_LENGTH : Tok
  m_MOST_LENGTH : mg "MOST_LENGTH" = some (.int 60 t_MOST_LENGTH)
  t_MOST_LAST : Tok
  m_MOST_LAST : mg "MOST_LAST" = some (.int (10 ^ 30) t_MOST_LAST)
  t_MOST_WORDS : Tok
  m_MOST_WORDS : mg "MOST_WORDS" = some (.int 20 t_MOST_WORDS)
  t_MOST_LETTERS : Tok
  m_MOST_LETTERS : mg "MOST_LETTERS" = some (.int 3 t_MOST_LETTERS)
  t_MOST_SIZE : Tok
  m_MOST_SIZE : mg "MOST_SIZE" = some (.int 6 t_MOST_SIZE)
end W

local macro_rules | `(tactic| walk_at "rd") => `(tactic| repeat (first
  | with_reducible refine Rd.seq ?_ | with_reducible refine Rd.asg ?_ | with_reducible refine Rd.name ?_ | with_reducible refine Rd.var rfl ?_ | with_reducible refine Rd.con ?_ | with_reducible refine Rd.op ?_
  | with_reducible refine Rd.ret ?_ | with_reducible refine Rd.ifS ?_ | with_reducible refine Rd.test ?_ | with_reducible refine Rd.tstB ?_ | with_reducible refine Rd.bl ?_ | with_reducible refine Rd.blE ?_
  | with_reducible refine Rd.nil ?_ | with_reducible refine Rd.cons ?_ | with_reducible refine Rd.cb ?_ | with_reducible refine Rd.call ?_ | with_reducible refine Rd.un ?_
  | with_reducible refine Rd.i0 ?_ | with_reducible refine Rd.u1 ?_ | with_reducible refine Rd.eqI ?_ | with_reducible refine Rd.neI ?_ | with_reducible refine Rd.eqB ?_ | with_reducible refine Rd.neB ?_ | with_reducible refine Rd.eqS ?_ | with_reducible refine Rd.neS ?_
  | with_reducible refine Rd.and ?_ | with_reducible refine Rd.or ?_ | with_reducible refine Rd.not ?_ | with_reducible refine Rd.andV ?_ | with_reducible refine Rd.orV ?_ | with_reducible refine Rd.notV ?_ | with_reducible refine Rd.ifE ?_ | with_reducible refine Rd.chain ?_
  | with_reducible refine Rd.tup ?_ | with_reducible refine Rd.lst ?_ | with_reducible refine Rd.nxt ?_ | with_reducible refine Rd.retN ?_ | with_reducible refine Rd.drop ?_ | with_reducible refine Rd.brk ?_ | with_reducible refine Rd.cont ?_
  | with_reducible refine Rd.a1 ?_ | with_reducible refine Rd.a2 ?_ | with_reducible refine Rd.v2 ?_ | with_reducible refine Rd.int ?_ | with_reducible refine Rd.abs ?_ | with_reducible refine Rd.max2 ?_ | with_reducible refine Rd.min2 ?_ | with_reducible refine Rd.bm ?_ | with_reducible refine Rd.bm0 ?_ | with_reducible refine Rd.sl ?_ | with_reducible refine Rd.part ?_ | with_reducible refine Rd.noPart ?_ | with_reducible refine Rd.intE ?_ | with_reducible refine Rd.revL ?_ | with_reducible refine Rd.enx ?_ | with_reducible refine Rd.ebk ?_ | with_reducible refine Rd.ect ?_ | with_reducible refine Rd.ert ?_ | with_reducible refine Rd.gcons ?_ | with_reducible refine Rd.gnil ?_ | with_reducible refine Rd.par ?_ | with_reducible refine Rd.sub ?_ | with_reducible refine Rd.iter ?_ | with_reducible refine Rd.iterT ?_ | with_reducible refine Rd.rng1 ?_ | with_reducible refine Rd.refE ?_ | with_reducible refine Rd.aug rfl ?_ | with_reducible refine Rd.ipi ?_ | with_reducible refine Rd.lc ?_ | with_reducible refine Rd.tyes ?_ | with_reducible refine Rd.fldH ?_ | with_reducible refine Rd.sfldH ?_ | with_reducible refine Rd.mkH ?_ | with_reducible refine Rd.methH ?_ | with_reducible refine Rd.istr ?_ | with_reducible refine Rd.strE ?_ | with_reducible refine Rd.lstRg ?_ | with_reducible refine Rd.m1 ?_ | with_reducible refine Rd.dgetH ?_ | with_reducible refine Rd.dinH ?_ | with_reducible refine Rd.dninH ?_ | with_reducible refine Rd.dget1H ?_ | with_reducible refine Rd.strX ?_ | with_reducible refine Rd.tupRg ?_ | with_reducible refine Rd.rg1 ?_ | with_reducible refine Rd.rg2 ?_ | with_reducible refine Rd.intE2 ?_ | with_reducible refine Rw.zipH ?_ | with_reducible refine Rw.itemsH ?_ | with_reducible refine Rw.keysH ?_ | with_reducible refine Rw.dc ?_ | with_reducible refine Rw.ckw ?_ | with_reducible refine Rd.notT ?_ | with_reducible refine Rx.raiseH ?_ | with_reducible refine Rx.callS ?_ | with_reducible refine Rx.xvH ?_ | with_reducible refine Rx.rng3 ?_
  | with_reducible refine L2.iteT ?_ | with_reducible refine L2.iteF ?_
  | with_reducible refine Rd.iteb ?_ | with_reducible refine Rd.iten ?_ | with_reducible refine Rd.itbn ?_))

local macro_rules | `(tactic| walk_at "yes") => `(tactic| (refine (if_pos (by first | assumption | omega)).mpr ?_))
local macro_rules | `(tactic| walk_at "no") => `(tactic| (refine (if_neg (by first | assumption | omega)).mpr ?_))

local macro_rules | `(tactic| k_extra "ne") => `(tactic| first
  | with_reducible assumption | with_reducible exact Ne.symm (by with_reducible assumption) | with_reducible exact Rd.ntT (by with_reducible assumption) (by k_extra "tape")
  | with_reducible exact Rd.neN (by with_reducible assumption) (by k_extra "at") | with_reducible exact Rd.neN' (by with_reducible assumption) (by k_extra "at"))
local macro_rules | `(tactic| k_extra "tape") => `(tactic| first
  | with_reducible assumption | with_reducible exact Rd.tape_same (by with_reducible assumption) (by k_extra "tape"))
local macro_rules | `(tactic| k_extra "at") => `(tactic| first
  | with_reducible assumption
  | with_reducible exact Rd.at_same (by with_reducible assumption) (by k_extra "at")
  | with_reducible exact Rd.at_off (by with_reducible assumption) (by k_extra "ne") (by k_extra "at")
  | with_reducible exact Rd.at_but (by with_reducible assumption) (by k_extra "ne") (by k_extra "at"))
local macro_rules | `(tactic| k_extra "bk") => `(tactic| first
  | with_reducible assumption
  | with_reducible exact Rd.book_same (by with_reducible assumption) (by k_extra "bk")
  | with_reducible exact Rd.book_but (by with_reducible assumption) (by k_extra "tape") (by k_extra "bk"))
local macro_rules | `(tactic| k_extra "sqL") => `(tactic| first
  | with_reducible assumption | with_reducible exact L2.Same.seq (by with_reducible assumption) (by k_extra "sqL"))
local macro_rules | `(tactic| k_extra "sqT") => `(tactic| first
  | with_reducible assumption | with_reducible exact Ru.same_tup (by with_reducible assumption) (by k_extra "sqT"))
local macro_rules | `(tactic| k_extra "sq") => `(tactic| first
  | with_reducible assumption | (with_reducible show L2.SqL _ _ _ _; first | exact L2.SqL.of (by k_extra "at") | k_extra "sqL") | (with_reducible show L2.SqT _ _ _ _; first | exact L2.SqT.of (by k_extra "at") | k_extra "sqT"))
local macro_rules | `(tactic| k_extra "row") => `(tactic| first
  | with_reducible assumption | exact Or.inl (L2.SqL.of (by k_extra "at")) | exact Or.inr (L2.SqT.of (by k_extra "at")) | exact Or.inl (by k_extra "sqL") | exact Or.inr (by k_extra "sqT"))
local macro_rules | `(tactic| k_extra "same") => `(tactic| first
  | with_reducible exact L2.Same.refl _ | with_reducible assumption
  | with_reducible exact Rd.same_tr (by with_reducible assumption) (by k_extra "same")
  | with_reducible exact Rd.same_of2 (by with_reducible assumption) (by with_reducible assumption) (by k_extra "same"))
local macro_rules | `(tactic| k_extra "but") => `(tactic| first
  | with_reducible exact Rd.But.refl _ _ | with_reducible assumption
  | with_reducible exact Rd.but_tr (by with_reducible assumption) (by k_extra "but")
  | with_reducible exact Rd.but_sm (by with_reducible assumption) (by k_extra "but")
  | with_reducible exact Rd.but_of2 (by with_reducible assumption) (by with_reducible assumption) (by k_extra "but"))
local macro_rules | `(tactic| k_extra "sz") => `(tactic| first
  | with_reducible assumption | with_reducible exact Lt.Wd.line (by with_reducible assumption) (by decide) | (rw [PySem.sizeLine_eq]; omega)
  | (simp only [List.length_map, List.length_append, List.length_cons, List.length_nil, List.length_take] <;> rw [PySem.sizeLine_eq] <;> omega) | exact Nat.le_of_ble_eq_true rfl)
local macro_rules | `(tactic| k_extra "go1") => `(tactic| first
  | (with_reducible show Rd.nLenS _ _ _; refine Rd.lenStr (by k_extra "sz") ?_)
  | (with_reducible show Rd.nLen _ _ _ _; first | refine Rd.lenS (by k_extra "row") ?_ | refine Rd.lenI (by k_extra "row") ?_ | refine Rd.lenR (by k_extra "row") ?_)
  | (with_reducible show L2.rSlS _ _ _ _ _; refine Rd.slS (by k_extra "sz") ?_)
  | (with_reducible show L2.tyV _ "list" _ _ ∧ _; refine Rd.tyL (by k_extra "sq") ?_)
  | (with_reducible show Rd.nAddS _ _ _ _; refine Rd.addS (by k_extra "sz") ?_)
  | (with_reducible show L2.rIsi _ _ _ _; first | with_reducible refine Rd.isiStr ?_ | with_reducible refine Rd.isiB ?_ | with_reducible refine Rd.isiI ?_ | with_reducible refine Rd.isiIB ?_ | (first | with_reducible refine Rx.askInt (by with_reducible assumption) ?_ | with_reducible refine Rx.askBl (by with_reducible assumption) ?_ | with_reducible refine Rx.askStr (by with_reducible assumption) ?_ | with_reducible refine Rx.askLst (by with_reducible assumption) ?_ | with_reducible refine Rx.askTup (by with_reducible assumption) ?_ | with_reducible refine Rx.askDct (by with_reducible assumption) ?_))
  | (with_reducible show L2.rIn _ _ _ _ _ _; first | refine Rd.inStrsY (by k_extra "row") ?_ | refine Rd.inStrsN (by k_extra "row") ?_ | refine Rd.inIntsY (by k_extra "row") ?_ | refine Rd.inIntsN (by k_extra "row") ?_)
  | with_reducible refine And.intro (Eq.refl L2.V.non) ?_ | with_reducible refine Rd.ifN ?_ | with_reducible refine Rd.ifR ?_ | with_reducible refine Rd.ifI ?_ | with_reducible refine Rd.ifT ?_)
local macro_rules | `(tactic| walk_at "go") => `(tactic| (walk_at "rd"; repeat (k_extra "go1"; walk_at "rd")))
local macro_rules | `(tactic| walk_at "ifs") => `(tactic| (walk_at "go"; repeat (first | (refine Rd.no (by decide) ?_; walk_at "go") | (refine Rd.yes (by decide) ?_; walk_at "go"))))

namespace W
open PySem PySem.Spec PyProof.Rows L2
section
variable {P : Program} {w : World} {K : PySem.W.Frag} {mg : Str → Option Value} {base : Heap}
/-! ### the tape: a list of the cells (never written) and four ints; what is drawn lies below the size -/
/-- a tape stands at t, its cells at c -/
def sp_l_tape (K : PySem.W.Frag) : Sp := fun vs H Q _ => ∃ (a : Addr) (ns : List Int), vs = [.ref a] ∧ SqL K H a (ns.map V.int) ∧ ∀ t c H', Tape H' t c → Same H H' → H t = none → H c = none → Q (.ref t) H'
def sp_l_pick (K : PySem.W.Frag) : Sp := fun vs H Q _ => ∃ (t c : Addr) (n : Int), vs = [.ref t, .int n] ∧ Tape H t c ∧ 0 < n ∧ n < 1073741824 ∧ ∀ r H', 0 ≤ r → r < n → Tape H' t c → Rd.But t H H' → Q (.int r) H'
theorem ok_l_tape (T : Txt K mg) : FnOk P w K mg base CX0 1 T.f_l_tape T.fd_l_tape ["_law_script"] (sp_l_tape K) := by
  refine T.F_l_tape.ok sc_l_tape (fun vs H Q E h => ?_) (fun cdv A outer s H vs Q E hr h => ?_)
  · obtain ⟨a, ns, rfl, _⟩ := h
    rfl
  · obtain ⟨a, ns, rfl, hS, k⟩ := h
    refine ⟨_, (pss_one (ps_ret (pe_lst (pa_cons (pe_callTy (T := "list") (r := Rd.nListOf K) Rd.c_listOf (by rfl) T.n_list (by decide +kernel) (pa_cons (pv 0) pa_nil)) (pa_cons pe_int (pa_cons pe_int (pa_cons pe_int (pa_cons pe_int pa_nil)))))))), ?_⟩
    walk_at "rd"
    refine Rd.listOf (.inl hS) (Rd.new fun c G hc gc s1 => ?_)
    walk_at "rd"
    refine ⟨Nat.le_of_ble_eq_true rfl, Rd.new fun t G2 ht gt s2 => ?_⟩
    have tc : c ≠ t := ne_of_none gc ht
    exact k t c _ ⟨ns, 0, 0, 1, 0, tc.symm, gt, s2 _ _ gc, by decide, by omega, by decide, by decide⟩ (s1.trans s2) (s1.free ht) hc
theorem ok_l_pick (T : Txt K mg) : FnOk P w K mg base CX0 1 T.f_l_pick T.fd_l_pick ["_law_tape_here", "_law_size"] (sp_l_pick K) := by
  refine T.F_l_pick.ok sc_l_pick (fun vs H Q E h => ?_) (fun cdv A outer s H vs Q E hr h => ?_)
  · obtain ⟨t, c, n, rfl, _⟩ := h
    rfl
  · obtain ⟨t, c, n, rfl, ⟨ns, x, y, z, u, tc, h1, h2, x0, x1, z0, z1⟩, n0, n1, k⟩ := h
    refine ⟨_, (pss_cons (ps_if (pt_cmpR op_gt (pe_ix (r := rIxL K) ix_list (pv 0) pe_int (fun _ _ => rfl)) pe_int (nomark _))
  (pss_cons (ps_set (i := 2) sc_l_pick.nd rfl (.inl rfl) (pe_op op_mod (pe_callTy (T := "int") (r := _) Rd.c_int (by rfl) T.n_int (by decide +kernel) (pa_cons (pe_ix (r := rIxL K) ix_list (pv 0) pe_int (fun _ _ => rfl)) pa_nil)) (pv 1)))
  (pss_cons (ps_asg (pe_op op_fdiv (pe_ix (r := rIxL K) ix_list (pv 0) pe_int (fun _ _ => rfl)) (pv 1)) (pg_sub (pv 0) pe_int set_list))
  (pss_one (ps_ret (pv 2)))))
  pss_nil)
  (pss_cons (ps_asg (pe_op op_add (pe_ix (r := rIxL K) ix_list (pv 0) pe_int (fun _ _ => rfl)) pe_int) (pg_sub (pv 0) pe_int set_list))
  (pss_cons (ps_set (i := 3) sc_l_pick.nd rfl (.inl rfl) pe_int)
  (C8.pss_cut (ps_if (pt_cmpR op_lt (pe_ix (r := rIxL K) ix_list (pv 0) pe_int (fun _ _ => rfl)) (pe_callB (id := "len") (r := Rd.nLen K) Rd.c_len (by rfl) T.n_len (by decide +kernel) (pa_cons (pe_ix ix_list (pv 0) pe_int (fun _ _ => rfl)) pa_nil)) (nomark _))
  (pss_cons (ps_set (i := 3) sc_l_pick.nd rfl (.inl rfl) (pe_ix (r := rIxL K) ix_list (pe_ix ix_list (pv 0) pe_int (fun _ _ => rfl)) (pe_ix (r := rIxL K) ix_list (pv 0) pe_int (fun _ _ => rfl)) (fun _ _ => rfl)))
  (pss_one (ps_asg (pe_op op_add (pe_ix (r := rIxL K) ix_list (pv 0) pe_int (fun _ _ => rfl)) pe_int) (pg_sub (pv 0) pe_int set_list))))
  pss_nil)
  (pss_cons (ps_if (pt_cmpR op_ge (pv 3) (pe_op op_pow pe_int pe_int) (nomark _))
  (pss_cons (ps_asg (pe_op op_fdiv (pv 3) (pv 1)) (pg_sub (pv 0) pe_int set_list))
  (pss_one (ps_ret (pe_op op_mod (pe_callTy (T := "int") (r := _) Rd.c_int (by rfl) T.n_int (by decide +kernel) (pa_cons (pv 3) pa_nil)) (pv 1)))))
  pss_nil)
  (pss_cons (ps_set (i := 4) sc_l_pick.nd rfl (.inl rfl) (pe_op op_mod (pe_callTy (T := "int") (r := _) Rd.c_int (by rfl) T.n_int (by decide +kernel) (pa_cons (pe_op op_add (pe_op op_add (pe_op op_mul (pe_ix (r := rIxL K) ix_list (pv 0) pe_int (fun _ _ => rfl)) pe_int) (pe_op op_mod (pe_callTy (T := "int") (r := _) Rd.c_int (by rfl) T.n_int (by decide +kernel) (pa_cons (pv 3) pa_nil)) pe_int)) (pe_op op_mul (pe_ix (r := rIxL K) ix_list (pv 0) pe_int (fun _ _ => rfl)) pe_int)) pa_nil)) pe_int))
  (pss_cons (ps_set (i := 4) sc_l_pick.nd rfl (.inl rfl) (pe_op op_mod (pe_callTy (T := "int") (r := _) Rd.c_int (by rfl) T.n_int (by decide +kernel) (pa_cons (pe_op op_mul (pv 4) (pe_op op_add (pe_op op_fdiv (pv 4) pe_int) pe_int)) pa_nil)) pe_int))
  (pss_cons (ps_asg (pv 4) (pg_sub (pv 0) pe_int set_list))
  (pss_one (ps_ret (pe_op op_mod (pe_callTy (T := "int") (r := _) Rd.c_int (by rfl) T.n_int (by decide +kernel) (pa_cons (pe_op op_fdiv (pv 4) pe_int) pa_nil)) (pv 1)))))))))))), ?_⟩
    walk_at "rd"
    refine Rd.ixL (.of h1) (atI_nat (j := 2) rfl) ?_
    walk_at "rd"
    refine ite2 (fun q => ?_) (fun q => ?_)
    · walk_at "rd"
      refine Rd.ixL (.of h1) (atI_nat (j := 2) rfl) ?_
      walk_at "rd"
      refine Rd.iC n0 ?_
      walk_at "rd"
      refine Rd.ixL (.of h1) (atI_nat (j := 2) rfl) ?_
      walk_at "rd"
      refine Rd.iC ⟨n0, n1⟩ ?_
      walk_at "rd"
      refine Rd.setG h1 (show ixN 5 2 = some 2 by decide) rfl fun G g1 gb => ?_
      walk_at "rd"
      exact k _ _ (Int.emod_nonneg _ (by omega)) (Int.emod_lt_of_pos _ n0) ⟨ns, x, _, z, u, tc, g1, by rw [gb _ tc.symm]; exact h2, x0, x1, z0, z1⟩ (fun b o hb e => by rw [gb b hb]; exact e)
    · walk_at "rd"
      refine Rd.ixL (.of h1) (atI_nat (j := 4) rfl) ?_
      walk_at "rd"
      refine Rd.setG h1 (show ixN 5 4 = some 4 by decide) rfl fun G g1 gb => ?_
      have g2 : G c = some (.lst (ns.map V.int)) := by rw [gb _ tc.symm]; exact h2
      walk_at "rd"
      -- the cell m is read (or 0)
      refine Rd.cut (fun σ G' => ∃ x' m : Int, σ = [some (.ref t), some (.int n), none, some (.int m), none] ∧ 0 ≤ x' ∧ x' ≤ ns.length ∧ G' t = some (.lst [.ref c, .int x', .int y, .int z, .int (u + 1)]) ∧ (∀ b, b ≠ t → G' b = H b)) ?_ ?_
      · walk_at "rd"
        refine Rd.ixL (.of g1) (atI_nat (j := 1) rfl) ?_
        walk_at "rd"
        refine Rd.ixL (.of g1) (atI_nat (j := 0) rfl) ?_
        walk_at "rd"
        refine Rd.len (.inl (.of g2)) ?_
        rw [List.length_map]
        walk_at "rd"
        refine ite2 (fun q2 => ?_) (fun q2 => ?_)
        · walk_at "rd"
          refine Rd.ixL (.of g1) (atI_nat (j := 0) rfl) ?_
          walk_at "rd"
          refine Rd.ixL (.of g1) (atI_nat (j := 1) rfl) ?_
          have hx : x.toNat < ns.length := by omega
          refine Rd.ixL (.of g2) (Rd.atI_of x0 (Rd.map_int hx)) ?_
          walk_at "rd"
          refine Rd.ixL (.of g1) (atI_nat (j := 1) rfl) ?_
          walk_at "rd"
          refine Rd.setG g1 (show ixN 5 1 = some 1 by decide) rfl fun G2 k1 kb => ?_
          walk_at "rd"
          exact ⟨x + 1, _, rfl, by omega, by omega, k1, fun b hb => (kb b hb).trans (gb b hb)⟩
        · walk_at "rd"
          exact ⟨x, 0, rfl, x0, x1, g1, gb⟩
      · rintro _ G' ⟨x', m, rfl, x'0, x'1, e1, eb⟩
        have e2 : G' c = some (.lst (ns.map V.int)) := by rw [eb _ tc.symm]; exact h2
        walk_at "rd"
        refine Rd.iC ⟨by decide, by decide, by decide⟩ ?_
        walk_at "rd"
        refine ite2 (fun q2 => ?_) (fun q2 => ?_)
        · walk_at "rd"
          refine Rd.iC ⟨n0, n1⟩ ?_
          walk_at "rd"
          refine Rd.setG e1 (show ixN 5 2 = some 2 by decide) rfl fun G2 k1 kb => ?_
          walk_at "rd"
          refine Rd.iC n0 ?_
          walk_at "rd"
          exact k _ _ (Int.emod_nonneg _ (by omega)) (Int.emod_lt_of_pos _ n0) ⟨ns, x', _, z, u + 1, tc, k1, by rw [kb _ tc.symm]; exact e2, x'0, x'1, z0, z1⟩ (fun b o hb e => by rw [kb b hb, eb b hb]; exact e)
        · walk_at "rd"
          refine Rd.ixL (.of e1) (atI_nat (j := 3) rfl) ?_
          walk_at "rd"
          refine Rd.iC (.inr (by decide)) ?_
          walk_at "rd"
          refine Rd.iC (by decide) ?_
          walk_at "rd"
          refine Rd.ixL (.of e1) (atI_nat (j := 4) rfl) ?_
          walk_at "rd"
          refine Rd.iC (.inr (by decide)) ?_
          walk_at "rd"
          refine Rd.iC (by decide) ?_
          generalize hM : (z * 48271 + m % 2147483629 + (u + 1) * 69621) % 2147483647 = M
          have M0 : 0 ≤ M := by rw [← hM]; exact Int.emod_nonneg _ (by decide)
          have M1 : M < 2147483647 := by rw [← hM]; exact Int.emod_lt_of_pos _ (by decide)
          walk_at "rd"
          refine Rd.iC ⟨by decide, by decide⟩ ?_
          walk_at "rd"
          refine Rd.iC (.inl ⟨by omega, by omega⟩) ?_
          walk_at "rd"
          refine Rd.iC (by decide) ?_
          generalize hN : M * (M / 1009 + 40692) % 2147483399 = N
          have N0 : 0 ≤ N := by rw [← hN]; exact Int.emod_nonneg _ (by decide)
          have N1 : N < 2147483399 := by rw [← hN]; exact Int.emod_lt_of_pos _ (by decide)
          walk_at "rd"
          refine Rd.setG e1 (show ixN 5 3 = some 3 by decide) rfl fun G2 k1 kb => ?_
          walk_at "rd"
          refine Rd.iC ⟨by decide, by decide⟩ ?_
          walk_at "rd"
          refine Rd.iC n0 ?_
          walk_at "rd"
          exact k _ _ (Int.emod_nonneg _ (by omega)) (Int.emod_lt_of_pos _ n0) ⟨ns, x', y, N, u + 1, tc, k1, by rw [kb _ tc.symm]; exact e2, x'0, x'1, N0, by omega⟩ (fun b o hb e => by rw [kb b hb, eb b hb]; exact e)
theorem pickR {K : PySem.W.Frag} {H : Hp} {t c : Addr} {n : Int} {Q : VK} {E : XK} (T : Tape H t c) (h0 : 0 < n) (h1 : n < 1073741824) (k : ∀ r H', 0 ≤ r → r < n → Tape H' t c → Rd.But t H H' → Q (.int r) H') : sp_l_pick K [.ref t, .int n] H Q E := ⟨t, c, n, rfl, T, h0, h1, k⟩
/-! ### what stays when only the tape is written -/
theorem but_L {K : PySem.W.Frag} {H H' : Hp} {t a : Addr} {xs : List V} (e : Rd.But t H H') (n : a ≠ t) (h : SqL K H a xs) : SqL K H' a xs := by
  rcases h with (h | ⟨o, h⟩) | h
  · exact .inl (.inl (e _ _ n h))
  · exact .inl (.inr ⟨o, e _ _ n h⟩)
  · exact .inr h
theorem but_T {K : PySem.W.Frag} {H H' : Hp} {t a : Addr} {xs : List V} (e : Rd.But t H H') (n : a ≠ t) (h : SqT K H a xs) : SqT K H' a xs := by
  rcases h with (h | ⟨o, h⟩) | h
  · exact .inl (.inl (e _ _ n h))
  · exact .inl (.inr ⟨o, e _ _ n h⟩)
  · exact .inr h
theorem but_R {K : PySem.W.Frag} {H H' : Hp} {t a : Addr} {xs : List V} (e : Rd.But t H H') (n : a ≠ t) (h : Ru.SqR K H a xs) : Ru.SqR K H' a xs := h.imp (but_L e n) (but_T e n)

end
end W

namespace W
open PySem PySem.Spec PyProof.Rows L2
section
variable {P : Program} {w : World} {K : PySem.W.Frag} {mg : Str → Option Value} {base : Heap}
def sp_is_integer (K : PySem.W.Frag) : Sp := fun vs H Q _ => ∃ i : Int, vs = [.int i] ∧ Q (.bl true) H
theorem ok_is_integer (T : Txt K mg) : FnOk P w K mg base CX0 1 T.f_is_integer T.fd_is_integer ["value"] (sp_is_integer K) := by
  refine T.F_is_integer.ok sc_is_integer (fun vs H Q E h => ?_) (fun cdv A outer s H vs Q E hr h => ?_)
  · obtain ⟨i, rfl, _⟩ := h
    rfl
  · obtain ⟨i, rfl, k⟩ := h
    refine ⟨_, (pss_one (ps_ret (pe_and (pe_callB (id := "isinstance") (r := rIsi K) call_isi (by rfl) T.n_isinstance (by decide +kernel) (pa_cons (pv 0) (pa_cons (pe_bltn (v := .ty "int") (u := .type "int") (by rfl) T.n_int (by decide +kernel) rfl) pa_nil))) (pe_one (pe_not (pe_callB (id := "isinstance") (r := rIsi K) call_isi (by rfl) T.n_isinstance (by decide +kernel) (pa_cons (pv 0) (pa_cons (pe_bltn (v := .ty "bool") (u := .type "bool") (by rfl) T.n_bool (by decide +kernel) rfl) pa_nil)))))))), ?_⟩
    walk_at "rd"
    refine Rd.isiI ?_
    walk_at "rd"
    refine Rd.isiIB ?_
    walk_at "rd"
    exact k
theorem intI {H : Hp} {i : Int} {Q : VK} {E : XK} (q : Q (.bl true) H) : sp_is_integer K [.int i] H Q E := ⟨i, rfl, q⟩

end
end W

namespace W
open PySem PySem.Spec PyProof.Rows L2
section
variable {P : Program} {w : World} {K : PySem.W.Frag} {mg : Str → Option Value} {base : Heap}
/-! ### words and watches of letters -/
def sp_is_letters (K : PySem.W.Frag) : Sp := fun vs H Q _ => ∃ z : Str, vs = [.str z] ∧ Lt.Let z ∧ z.length ≤ 1000000 ∧ ∀ H', Same H H' → Q (.bl true) H'
def sp_is_word (K : PySem.W.Frag) : Sp := fun vs H Q _ => ∃ z : Str, vs = [.str z] ∧ Lt.Wd 40 z ∧ ∀ H', Same H H' → Q (.bl true) H'
def sp_is_watch (K : PySem.W.Frag) : Sp := fun vs H Q _ => ∃ z : Str, vs = [.str z] ∧ Lt.Wd 12 z ∧ ∀ H', Same H H' → Q (.bl true) H'
theorem ok_is_letters (T : Txt K mg) : FnOk P w K mg base CX0 1 T.f_is_letters T.fd_is_letters ["value"] (sp_is_letters K) := by
  refine T.F_is_letters.ok sc_is_letters (fun vs H Q E h => ?_) (fun cdv A outer s H vs Q E hr h => ?_)
  · obtain ⟨z, rfl, _⟩ := h
    rfl
  · obtain ⟨z, rfl, hz, hl, k⟩ := h
    refine ⟨_, (pss_one (ps_ret (pe_and (pe_callB (id := "isinstance") (r := rIsi K) call_isi (by rfl) T.n_isinstance (by decide +kernel) (pa_cons (pv 0) (pa_cons (pe_bltn (v := .ty "str") (u := .type "str") (by rfl) T.n_str (by decide +kernel) rfl) pa_nil))) (pe_one (pe_callB (id := "all") (r := rAll K) (cr_all rfl) (by rfl) T.n_all (by decide +kernel) (pa_cons (pe_lc (own := [("letter", 1)]) (g := gName 1) (tt := tYes) rfl sc_is_letters.nd (pi_str (pv 0)) (blkOk_by (own := [("letter", 1)]) (N := ["value", "letter"]) (sc := defScope s_is_letters) (by decide +kernel)) (fun _ _ _ _ _ => (pg_name (i := 1) sc_is_letters.nd rfl (.inl rfl))) (fun _ _ _ _ _ => pts_nil) (fun _ _ _ _ _ => (pe_cmpR Rd.o_inC (pv 1) (pe_glob (v := .str "abcdefghijklmnopqrstuvwxyz") rfl T.m_LETTERS ⟨_, rfl⟩) rfl))) pa_nil)))))), ?_⟩
    walk_at "rd"
    refine Rd.isiStr ?_
    walk_at "rd"
    refine Rd.lcS walk_str (fun _ _ => trivial) (fun _ i acc _ => acc = (List.replicate i true).map V.bl) (fun _ _ _ _ _ => rfl) ?_ ?_
    · rintro D i x G _ acc nD hi hD sm rfl ⟨rfl, c, hc, rfl⟩
      walk_at "rd"
      refine ⟨rfl, Rd.tyes ?_⟩
      walk_at "rd"
      have hc2 : c ∈ Lt.Abc.cps.toList := hz.char (i := i) (by simpa using hc)
      refine Rd.inCT hc2 ?_
      have hi2 : i < z.length := hi
      refine Rd.lcPush hD nD sm (by rw [List.length_map, List.length_replicate, sizeLine_eq]; omega) fun G _ _ => ?_
      rw [List.replicate_succ', List.map_append]
      rfl
    · rintro D acc G nD hD sm rfl
      refine Rd.all (.of hD) ?_
      rw [show (List.replicate z.cps.size true).all id = true by simp]
      exact k _ sm
theorem ok_is_word (T : Txt K mg) : FnOk P w K mg base CX0 2 T.f_is_word T.fd_is_word ["thing"] (sp_is_word K) := by
  refine T.F_is_word.ok sc_is_word (fun vs H Q E h => ?_) (fun cdv A outer s H vs Q E hr h => ?_)
  · obtain ⟨z, rfl, _⟩ := h
    rfl
  · obtain ⟨z, rfl, hz, k⟩ := h
    refine ⟨_, (pss_one (ps_ret (pe_and (pe_call (ok_is_letters T) (hr.mono (by decide)) rfl T.g_is_letters T.F_is_letters.kp T.b_is_letters .nil pass0 (pa_cons (pv 0) pa_nil)) (pe_one (pe_chain op_le op_le pe_int (pe_callB (id := "len") (r := _) Rd.c_lenS (by rfl) T.n_len (by decide +kernel) (pa_cons (pv 0) pa_nil)) (pe_glob (v := .int 40) rfl T.m_MOST_WORD ⟨_, rfl⟩)))))), ?_⟩
    have h0 := hz.l0
    have h1 := hz.l1
    walk_at "rd"
    refine ⟨z, rfl, hz.ok, by omega, fun H1 s1 => ?_⟩
    walk_at "rd"
    refine Rd.lenStr (hz.line (by decide)) ?_
    walk_at "rd"
    walk_at "yes"
    walk_at "rd"
    rw [decide_eq_true (by omega)]
    exact k _ s1
theorem ok_is_watch (T : Txt K mg) : FnOk P w K mg base CX0 2 T.f_is_watch T.fd_is_watch ["thing"] (sp_is_watch K) := by
  refine T.F_is_watch.ok sc_is_watch (fun vs H Q E h => ?_) (fun cdv A outer s H vs Q E hr h => ?_)
  · obtain ⟨z, rfl, _⟩ := h
    rfl
  · obtain ⟨z, rfl, hz, k⟩ := h
    refine ⟨_, (pss_one (ps_ret (pe_and (pe_call (ok_is_letters T) (hr.mono (by decide)) rfl T.g_is_letters T.F_is_letters.kp T.b_is_letters .nil pass0 (pa_cons (pv 0) pa_nil)) (pe_one (pe_chain op_le op_le pe_int (pe_callB (id := "len") (r := _) Rd.c_lenS (by rfl) T.n_len (by decide +kernel) (pa_cons (pv 0) pa_nil)) (pe_glob (v := .int 12) rfl T.m_MOST_WATCH ⟨_, rfl⟩)))))), ?_⟩
    have h0 := hz.l0
    have h1 := hz.l1
    walk_at "rd"
    refine ⟨z, rfl, hz.ok, by omega, fun H1 s1 => ?_⟩
    walk_at "rd"
    refine Rd.lenStr (hz.line (by decide)) ?_
    walk_at "rd"
    walk_at "yes"
    walk_at "rd"
    rw [decide_eq_true (by omega)]
    exact k _ s1

end
end W

namespace W
open PySem PySem.Spec PyProof.Rows L2
section
variable {P : Program} {w : World} {K : PySem.W.Frag} {mg : Str → Option Value} {base : Heap}
def sp_check_word (K : PySem.W.Frag) : Sp := fun vs H Q _ => ∃ z : Str, vs = [.str z] ∧ Lt.Wd 40 z ∧ ∀ H', Same H H' → Q (.str z) H'
theorem ok_check_word (T : Txt K mg) : FnOk P w K mg base CX0 4 T.f_check_word T.fd_check_word ["word"] (sp_check_word K) := by
  refine T.F_check_word.ok sc_check_word (fun vs H Q E h => ?_) (fun cdv A outer s H vs Q E hr h => ?_)
  · obtain ⟨z, rfl, _⟩ := h
    rfl
  · obtain ⟨z, rfl, hz, k⟩ := h
    refine ⟨_, (pss_cons (ps_if (pt_not (pt_val (pe_call (ok_is_word T) (hr.mono (by decide)) rfl T.g_is_word T.F_is_word.kp T.b_is_word .nil pass0 (pa_cons (pv 0) pa_nil))))
  (pss_one ps_never)
  pss_nil)
  (pss_one (ps_ret (pv 0)))), ?_⟩
    walk_at "rd"
    refine ⟨z, rfl, hz, fun H1 s1 => ?_⟩
    walk_at "rd"
    exact k _ s1

end
end W

namespace W
open PySem PySem.Spec PyProof.Rows L2
section
variable {P : Program} {w : World} {K : PySem.W.Frag} {mg : Str → Option Value} {base : Heap}
/-! ### texts in order -/
def keyD (z : Str) : PyData := .tuple [.int (z.length : Nat), .str z]
def inOrder (zs : List Str) : List Str := zs.mergeSort (PySem.W.dataLe false keyD)
theorem keys_ok (zs : List Str) : Rs.Keys (zs.map keyD) where
  al d hd d' hd' := by
    obtain ⟨e, _, rfl⟩ := List.mem_map.mp hd
    obtain ⟨f, _, rfl⟩ := List.mem_map.mp hd'
    unfold keyD
    simp [PySem.W.alike, PySem.W.alikeAll]
  so := .inl fun d hd => by
    obtain ⟨e, _, rfl⟩ := List.mem_map.mp hd
    exact ⟨_, _, rfl⟩
  dp d hd := by
    obtain ⟨e, _, rfl⟩ := List.mem_map.mp hd
    show 1 ≤ 50
    decide
def sp_text_key (K : PySem.W.Frag) : Sp := fun vs H Q _ => ∃ z : Str, vs = [.str z] ∧ z.length ≤ 1000 ∧ ∀ (p : Addr) H', Same H H' → H' p = some (.tup [.int (z.length : Nat), .str z]) → Q (.ref p) H'
theorem ok_text_key (T : Txt K mg) : FnOk P w K mg base CX0 1 T.f_text_key T.fd_text_key ["text"] (sp_text_key K) := by
  refine T.F_text_key.ok sc_text_key (fun vs H Q E h => ?_) (fun cdv A outer s H vs Q E hr h => ?_)
  · obtain ⟨z, rfl, _⟩ := h
    rfl
  · obtain ⟨z, rfl, l, k⟩ := h
    refine ⟨_, (pss_one (ps_ret (pe_tup (pa_cons (pe_callB (id := "len") (r := _) Rd.c_lenS (by rfl) T.n_len (by decide +kernel) (pa_cons (pv 0) pa_nil)) (pa_cons (pv 0) pa_nil))))), ?_⟩
    have zl : z.length ≤ sizeLine := by rw [sizeLine_eq]; omega
    walk_at "go"
    refine ⟨Nat.le_of_ble_eq_true rfl, Rd.new fun p G np gp sG => ?_⟩
    exact k p G sG gp
theorem each_strs : ∀ zs : List Str, PySem.W.EachIs (fun x z => x = V.str z) (zs.map V.str) zs
  | [] => .nil
  | z :: zs => .cons rfl (each_strs zs)
theorem strs_each : ∀ {xs : List V} {zs : List Str}, PySem.W.EachIs (fun x z => x = V.str z) xs zs → xs = zs.map V.str
  | _, _, .nil => rfl
  | _, _, .cons h t => by rw [h, strs_each t]; rfl
def sp_in_order (K : PySem.W.Frag) : Sp := fun vs H Q _ => ∃ (a : Addr) (zs : List Str), vs = [.ref a] ∧ SqL K H a (zs.map V.str) ∧ (∀ z ∈ zs, z.length ≤ 1000) ∧ ∀ (l : Addr) H', Same H H' → H l = none → H' l = some (.lst ((inOrder zs).map V.str)) → Q (.ref l) H'
theorem ok_in_order (T : Txt K mg) : FnOk P w K mg base CX0 3 T.f_in_order T.fd_in_order ["texts"] (sp_in_order K) := by
  refine T.F_in_order.ok sc_in_order (fun vs H Q E h => ?_) (fun cdv A outer s H vs Q E hr h => ?_)
  · obtain ⟨a, zs, rfl, _⟩ := h
    rfl
  · obtain ⟨a, zs, rfl, hS, hz, k⟩ := h
    refine ⟨_, (pss_one (ps_ret (pe_callBK (id := "sorted") (ks := [Str.ofString "key"]) (r := Rs.rSortK T.f_text_key (sp_text_key K) K) (Rs.cr_sortK (ok_text_key T) (hr.mono (by decide)) T.b_text_key) (by rfl) T.n_sorted (by decide +kernel) (pa_cons (pv 0) pa_nil) (pk_cons (pe_glob (v := .ref T.f_text_key) rfl T.g_text_key rfl) pk_nil)))), ?_⟩
    walk_at "go"
    refine Rw.sortK keyD (fun x z => x = V.str z) hS (each_strs zs) (keys_ok zs) (fun x z H1 s1 m e => ?_) fun out p G ho np gp sG => ?_
    · subst e
      exact ⟨z, rfl, hz z m, fun q H2 s2 gq => ⟨s2, .tup (.of gq) (.cons (.int _) (.cons (.str _) .nil))⟩⟩
    · rw [strs_each ho] at gp
      exact k p G sG np gp

end
end W

namespace W
open PySem PySem.Spec PyProof.Rows L2
section
variable {P : Program} {w : World} {K : PySem.W.Frag} {mg : Str → Option Value} {base : Heap}
/-! ### books -/
def sp_Book_init (K : PySem.W.Frag) (C : Addr) : Sp := fun vs H Q _ => ∃ (b a : Addr) (ws : List Str), vs = [.ref b, .ref a] ∧ (∃ dx, H b = some (.ins C dx [])) ∧ Ru.SqR K H a (ws.map V.str) ∧ Watches ws ∧ ∀ H', BookAt C H' b ws → Rd.But b H H' → Q .non H'
def sp_check_book (K : PySem.W.Frag) (C : Addr) : Sp := fun vs H Q _ => ∃ (b : Addr) (ws : List Str), vs = [.ref b] ∧ BookAt C H b ws ∧ Q (.ref b) H
theorem ok_Book_init (T : Txt K mg) : FnOk P w K mg base CX0 4 T.f_Book_init T.fd_Book_init ["self", "watches"] (sp_Book_init K T.C_Book) := by
  refine T.F_Book_init.ok sc_Book_init (fun vs H Q E h => ?_) (fun cdv A outer s H vs Q E hr h => ?_)
  · obtain ⟨b, a, ws, rfl, _⟩ := h
    rfl
  · obtain ⟨b, a, ws, rfl, ⟨dx, hb⟩, hS, L, k⟩ := h
    refine ⟨_, (pss_cons (ps_if (PW.pt (pw_or (pt_not (pt_val (pe_callB (id := "isinstance") (r := rIsiT K) call_isiT (by rfl) T.n_isinstance (by decide +kernel) (pa_cons (pv 1) (pa_cons (pe_tup (pa_cons (pe_bltn (v := .ty "list") (u := .type "list") (by rfl) T.n_list (by decide +kernel) rfl) (pa_cons (pe_bltn (v := .ty "tuple") (u := .type "tuple") (by rfl) T.n_tuple (by decide +kernel) rfl) pa_nil))) pa_nil))))) (pw_or1 (pt_cmpR op_gt (pe_callB (id := "len") (r := Rd.nLen K) Rd.c_len (by rfl) T.n_len (by decide +kernel) (pa_cons (pv 1) pa_nil)) (pe_glob (v := .int 12) rfl T.m_MOST_WATCHES ⟨_, rfl⟩) (nomark _)))))
  (pss_one ps_never)
  pss_nil)
  (pss_cons (ps_set (i := 2) sc_Book_init.nd rfl (.inl rfl) (pe_lst pa_nil))
  (pss_cons (ps_for PassesOwn.never rfl (Ru.pi_or (pi_enum (by rfl) T.n_enumerate (pa_cons (pv 1) pa_nil)) (Ru.pi_enumT (by rfl) T.n_enumerate (pa_cons (pv 1) pa_nil))) (pg_tup rfl (pgs_cons (pg_name (i := 3) sc_Book_init.nd rfl (.inl rfl)) (pgs_cons (pg_name (i := 4) sc_Book_init.nd rfl (.inl rfl)) pgs_nil)))
  (pss_cons (ps_if (PW.pt (pw_or (pt_not (pt_val (pe_call (ok_is_watch T) (hr.mono (by decide)) rfl T.g_is_watch T.F_is_watch.kp T.b_is_watch .nil pass0 (pa_cons (pv 4) pa_nil)))) (pw_or1 (pt_cmpR (r := rIn K false) op_in_seq (pv 4) (pv 2) (by rfl)))))
  (pss_one ps_never)
  pss_nil)
  (pss_one (ps_expr (pe_bm PySem.F.plainAttrs_list PySem.F.slot_list_append PySem.F.type_list_append mt_append (pv 2) (pa_cons (pv 4) pa_nil))))))
  (pss_one (ps_fld (pv 0) (pe_callTy (T := "tuple") (r := Rd.nTupOf K) Rd.c_tupOf (by rfl) T.n_tuple (by decide +kernel) (pa_cons (pv 2) pa_nil)) rfl))))), ?_⟩
    have l1 := L.l1
    walk_at "rd"
    refine ⟨Nat.le_of_ble_eq_true rfl, Rd.new fun p G hp gp sG => ?_⟩
    walk_at "rd"
    refine Ru.isRow (hS.same sG) gp ?_
    walk_at "rd"
    refine Rd.len (hS.same sG) ?_
    rw [List.length_map]
    walk_at "rd"
    walk_at "no"
    walk_at "rd"
    refine ⟨Nat.zero_le _, Rd.new fun f G2 nf gf s2 => ?_⟩
    walk_at "rd"
    refine Ru.for_enumR (a := a) (xs := ws.map V.str) (fun Q q => ?_) (fun i σ H' => ∃ x y, σ = [some (.ref b), some (.ref a), some (.ref f), x, y] ∧ H' f = some (.lst ((ws.take i).map V.str)) ∧ Same G H') (hS.same sG) ⟨_, _, rfl, gf, s2⟩ (fun i σ H' _ ⟨_, _, _, _, z⟩ => z) ?_ ?_
    · walk_at "rd"
      exact q
    · rintro i x _ H' t hx ⟨_, _, rfl, hf, sm⟩ hT
      obtain ⟨z, hz, rfl⟩ := Rd.map_strG hx
      have sT := Rd.same_upd (o := .tup [.int (i : Nat), .str z]) hT
      refine Rd.tupT (.of upd_same) rfl ?_
      walk_at "rd"
      refine ⟨z, rfl, L.ok z (List.mem_of_getElem? hz), fun H1 s1 => ?_⟩
      have hf1 := s1 _ _ (sT _ _ hf)
      walk_at "rd"
      refine Rd.inStrsY (.inl (.of hf1)) ?_
      rw [decide_eq_false (Rd.nodup_take L.nd hz)]
      walk_at "rd"
      refine Rd.tyL (.of hf1) ?_
      walk_at "rd"
      refine Rd.app hf1 (by rw [List.length_map, List.length_take, sizeLine_eq]; omega) fun G3 g3 off3 => ?_
      walk_at "rd"
      refine ⟨_, _, rfl, ?_, fun c o e => ?_⟩
      · rw [Rd.take_snoc hz, List.map_append]
        exact g3
      · rw [off3 c (ne_of_none e nf)]
        exact s1 _ _ (sT _ _ (sm _ _ e))
    · rintro _ H' ⟨_, _, rfl, hf, sm⟩
      rw [List.length_map, List.take_length] at hf
      walk_at "rd"
      refine Rd.tupOf (.of hf) (Rd.new fun t G3 nt gt s3 => ?_)
      walk_at "rd"
      have hb3 := s3 _ _ (sm _ _ (sG _ _ hb))
      refine Rd.sfld hb3 T.cl_Book T.na_Book_watches (by decide) rfl fun G4 g4 off4 => ?_
      walk_at "rd"
      refine k _ ⟨dx, t, g4, ?_⟩ fun c o n e => ?_
      · rw [off4 t (ne_of gt hb3 (fun e => nomatch e))]
        exact gt
      · rw [off4 c n]
        exact s3 _ _ (sm _ _ (sG _ _ e))
theorem ok_check_book (T : Txt K mg) : FnOk P w K mg base CX0 4 T.f_check_book T.fd_check_book ["book"] (sp_check_book K T.C_Book) := by
  refine T.F_check_book.ok sc_check_book (fun vs H Q E h => ?_) (fun cdv A outer s H vs Q E hr h => ?_)
  · obtain ⟨b, ws, rfl, _⟩ := h
    rfl
  · obtain ⟨b, ws, rfl, ⟨dx, t, hb, ht⟩, k⟩ := h
    refine ⟨_, (pss_cons (ps_if (pt_not (pt_val (pe_callB (id := "isinstance") (r := rIsi K) call_isi (by rfl) T.n_isinstance (by decide +kernel) (pa_cons (pv 0) (pa_cons (pe_glob (v := .ref T.C_Book) rfl T.c_Book rfl) pa_nil)))))
  (pss_one ps_never)
  pss_nil)
  (pss_one (ps_ret (pv 0)))), ?_⟩
    walk_at "rd"
    refine isiOwn T.cl_Book T.ty_Book hb ?_
    walk_at "rd"
    exact k
theorem watch_sm {ws : List Str} (L : Watches ws) : ∀ W ∈ ws, 1 ≤ W.length ∧ W.length ≤ 1000 := fun W m => ⟨(L.ok W m).l0, by have := (L.ok W m).l1; omega⟩

end
end W

namespace W
open PySem PySem.Spec PyProof.Rows L2
section
variable {P : Program} {w : World} {K : PySem.W.Frag} {mg : Str → Option Value} {base : Heap}
def sp_Book_without_watch (K : PySem.W.Frag) (C : Addr) : Sp := fun vs H Q _ => ∃ (b : Addr) (z : Str) (ws : List Str), vs = [.ref b, .str z] ∧ BookAt C H b ws ∧ Watches ws ∧ z ∈ ws ∧ ∀ b' H', BookAt C H' b' (ws.filter fun W => !decide (W = z)) → Same H H' → H b' = none → Q (.ref b') H'
theorem Watches.filter {ws : List Str} (h : Watches ws) (f : Str → Bool) : Watches (ws.filter f) := ⟨h.nd.sublist List.filter_sublist, Nat.le_trans (List.length_filter_le _ _) h.l1, fun z m => h.ok z (List.mem_filter.mp m).1⟩
/-- a comprehension that filters, its state -/
theorem filt_stepB {α : Type} {l : List α} {i : Nat} {x : α} {f : α → Bool} (h : l[i]? = some x) : (l.take (i + 1)).filter f = (l.take i).filter f ++ if f x = true then [x] else [] := by
  rw [Rd.take_snoc h, List.filter_append]
  congr 1
  cases e : f x <;> simp [e]
end
end W

namespace W
open PySem PySem.Spec PyProof.Rows L2
section
variable {P : Program} {w : World} {K : PySem.W.Frag} {mg : Str → Option Value} {base : Heap}
/-! ### the roads of a word: lists of spots -/
def Links (K : PySem.W.Frag) (H : Hp) (p : Addr) (n : Nat) (A : Nat → Nat → Prop) : Prop := ∃ rs : List Addr, SqL K H p (rs.map V.ref) ∧ rs.length = n + 1 ∧ ∀ i r, rs[i]? = some r → ∃ ms : List Int, SqL K H r (ms.map V.int) ∧ (ms.Pairwise (· ≤ ·) ∧ ms.length ≤ 1000000) ∧ ∀ x, x ∈ ms ↔ ∃ j : Nat, x = j ∧ A i j
theorem Links.same {K : PySem.W.Frag} {H H' : Hp} {p : Addr} {n : Nat} {A : Nat → Nat → Prop} (h : Links K H p n A) (s : Same H H') : Links K H' p n A := by
  obtain ⟨rs, h1, h2, h3⟩ := h
  exact ⟨rs, s.seq h1, h2, fun i r e => let ⟨ms, k1, k2⟩ := h3 i r e; ⟨ms, s.seq k1, k2⟩⟩
def Rows (H : Hp) (rs : List Addr) (F : Nat → List Int) : Prop := rs.Nodup ∧ ∀ (i : Nat) r, rs[i]? = some r → H r = some (.lst ((F i).map V.int))
theorem Rows.put {H G : Hp} {rs : List Addr} {F : Nat → List Int} (h : Rows H rs F) {i : Nat} {r : Addr} {x : Int} (hi : rs[i]? = some r) (g : G r = some (.lst ((F i).map V.int ++ [.int x]))) (off : ∀ b, b ≠ r → G b = H b) : Rows G rs (fun j => if j = i then F i ++ [x] else F j) := by
  refine ⟨h.1, fun j q hj => ?_⟩
  by_cases c : j = i
  · subst c
    rw [hi] at hj
    cases hj
    show G r = some (.lst ((if j = j then F j ++ [x] else F j).map V.int))
    rw [if_pos rfl, List.map_append]
    exact g
  · have n : q ≠ r := fun e => by
      subst e
      exact c ((List.getElem?_inj (List.getElem?_eq_some_iff.mp hj).1 h.1).mp (hj.trans hi.symm))
    show G q = some (.lst ((if j = i then F i ++ [x] else F j).map V.int))
    rw [if_neg c, off q n]
    exact h.2 j q hj
/-- .. each neighbour once, ascending -/
def LinksN (K : PySem.W.Frag) (H0 H : Hp) (p : Addr) (n : Nat) (A : Nat → Nat → Prop) : Prop := ∃ rs : List Addr, SqL K H p (rs.map V.ref) ∧ rs.length = n + 1 ∧ ∀ i r, rs[i]? = some r → ∃ ms : List Int, SqL K H r (ms.map V.int) ∧ ms.Pairwise (· < ·) ∧ (H r = some (.lst (ms.map V.int)) ∧ H0 r = none) ∧ ∀ x, x ∈ ms ↔ ∃ j : Nat, x = j ∧ A i j
theorem LinksN.same {K : PySem.W.Frag} {H0 H H' : Hp} {p : Addr} {n : Nat} {A : Nat → Nat → Prop} (h : LinksN K H0 H p n A) (s : Same H H') : LinksN K H0 H' p n A := by
  obtain ⟨rs, h1, h2, h3⟩ := h
  refine ⟨rs, s.seq h1, h2, fun i r e => ?_⟩
  obtain ⟨ms, m1, m2, m3, m4⟩ := h3 i r e
  exact ⟨ms, s.seq m1, m2, ⟨s _ _ m3.1, m3.2⟩, m4⟩
theorem adj_fresh {ws : List Str} {k : Nat} {W z : Str} {m : Nat} (nd : ws.Nodup) (hW : ws[k]? = some W) (hw : ∀ W ∈ ws, 1 ≤ W.length) (oc : Mw.Occ W z m) : ¬ Mw.AdjB (ws.take k) W z m m (m + W.length) ∧ ¬ Mw.AdjB (ws.take k) W z m (m + W.length) m := by
  have w1 := hw W (List.mem_of_getElem? hW)
  have no : W ∉ ws.take k := fun h => by
    obtain ⟨j, hj, e⟩ := List.mem_take_iff_getElem.mp h
    obtain ⟨hk, e2⟩ := List.getElem?_eq_some_iff.mp hW
    have := (List.pairwise_iff_getElem.mp nd) j k (by omega) hk (by omega)
    exact this (e.trans e2.symm)
  have same : ∀ W', Mw.Occ W' z m → W'.length = W.length → W' = W := fun W' o e => by
    have h1 := o.2
    rw [e] at h1
    exact h1.symm.trans oc.2
  constructor
  · rintro (⟨W', mm, ⟨o, e⟩ | ⟨o, e⟩⟩ | ⟨h, _⟩ | ⟨h, _⟩)
    · exact no (same W' o (by omega) ▸ mm)
    · have := hw W' (List.mem_of_mem_take mm)
      omega
    · omega
    · omega
  · rintro (⟨W', mm, ⟨o, e⟩ | ⟨o, e⟩⟩ | ⟨h, _⟩ | ⟨h, _⟩)
    · have := hw W' (List.mem_of_mem_take mm)
      omega
    · exact no (same W' o (by omega) ▸ mm)
    · omega
    · omega
theorem sorted_lt {ms : List Int} (h : ms.Pairwise (· ≤ ·)) (nd : ms.Nodup) : ms.Pairwise (· < ·) := by
  have := h.and nd
  exact this.imp fun ⟨a, b⟩ => by omega
def sp_links_of (K : PySem.W.Frag) : Sp := fun vs H Q _ => ∃ (a : Addr) (ws : List Str) (z : Str), vs = [.ref a, .str z] ∧ Ru.SqR K H a (ws.map V.str) ∧ (∀ W ∈ ws, 1 ≤ W.length ∧ W.length ≤ 1000) ∧ ws.length ≤ 100 ∧ z.length ≤ 1000 ∧ ∀ p H', Links K H' p z.length (Mw.Adj ws z) → Same H H' → H p = none → (ws.Nodup → LinksN K H H' p z.length (Mw.Adj ws z)) → Q (.ref p) H'
/-- the rows so far: f the list of them, G0 what stood ahead -/
structure SoFar (G0 H : Hp) (f : Addr) (rs : List Addr) (n : Nat) (F : Nat → List Int) : Prop where
  sm : Same G0 H
  hf : H f = some (.lst (rs.map V.ref))
  ro : Rows H rs F
  ln : rs.length = n + 1
  nr : ∀ r ∈ rs, G0 r = none ∧ r ≠ f
theorem SoFar.put {G0 H G : Hp} {f : Addr} {rs : List Addr} {n : Nat} {F : Nat → List Int} (h : SoFar G0 H f rs n F) {i : Nat} {r : Addr} {x : Int} (hi : rs[i]? = some r) (g : G r = some (.lst ((F i).map V.int ++ [.int x]))) (off : ∀ b, b ≠ r → G b = H b) : SoFar G0 G f rs n (fun j => if j = i then F i ++ [x] else F j) := by
  have m := h.nr r (List.mem_of_getElem? hi)
  refine ⟨fun b o e => ?_, ?_, h.ro.put hi g off, h.ln, h.nr⟩
  · rw [off b (ne_of_none e m.1)]
    exact h.sm b o e
  · rw [off f m.2.symm]
    exact h.hf
theorem SoFar.row {G0 H : Hp} {f : Addr} {rs : List Addr} {n : Nat} {F : Nat → List Int} (h : SoFar G0 H f rs n F) {i : Nat} (hi : i ≤ n) : ∃ r, rs[i]? = some r ∧ H r = some (.lst ((F i).map V.int)) ∧ atI (rs.map V.ref) (i : Int) = some (.ref r) := by
  have l : i < rs.length := by have := h.ln; omega
  exact ⟨rs[i], List.getElem?_eq_getElem l, h.ro.2 i _ (List.getElem?_eq_getElem l), atI_nat (Rd.map_ref l)⟩
theorem ok_links_of (T : Txt K mg) : FnOk P w K mg base CX0 1 T.f_links_of T.fd_links_of ["watches", "word"] (sp_links_of K) := by
  refine T.F_links_of.ok sc_links_of (fun vs H Q E h => ?_) (fun cdv A outer s H vs Q E hr h => ?_)
  · obtain ⟨a, ws, z, rfl, _⟩ := h
    rfl
  · obtain ⟨a, ws, z, rfl, hS, hw, l1, l2, k⟩ := h
    refine ⟨_, (pss_cons (ps_setLc (i := 3) (own := [("spot", 2)]) (g := gName 2) (tt := tYes) rfl sc_links_of.nd rfl rfl (sw_true rfl rfl rfl (by decide +kernel)) (pi_range1 rfl T.n_range (pa_cons (pe_op op_add (pe_callB (id := "len") (r := _) Rd.c_lenS (by rfl) T.n_len (by decide +kernel) (pa_cons (pv 1) pa_nil)) pe_int) pa_nil)) (blkOk_by (own := [("spot", 2)]) (N := ["watches", "word", "spot", "found", "watch", "row"]) (sc := defScope s_links_of) (by decide +kernel)) (fun _ _ _ _ _ => (pg_name (i := 2) sc_links_of.nd rfl (.inl rfl))) (fun _ _ _ _ _ => pts_nil) (fun _ _ _ _ _ => (pe_lst pa_nil)))
  (pss_cons (ps_for PassesOwn.never rfl (Ru.pi_or (pi_list (pv 0)) (pi_tup (pv 0))) (pg_name (i := 4) sc_links_of.nd rfl (.inl rfl))
  (pss_one (ps_for PassesOwn.never rfl (pi_range1 rfl T.n_range (pa_cons (pe_op op_add (pe_op op_sub (pe_callB (id := "len") (r := _) Rd.c_lenS (by rfl) T.n_len (by decide +kernel) (pa_cons (pv 1) pa_nil)) (pe_callB (id := "len") (r := _) Rd.c_lenS (by rfl) T.n_len (by decide +kernel) (pa_cons (pv 4) pa_nil))) pe_int) pa_nil)) (pg_name (i := 2) sc_links_of.nd rfl (.inl rfl))
  (pss_one (ps_if (pt_cmpR op_eq (pe_slice sl_str (pv 1) (po_some (pv 2)) (po_some (pe_op op_add (pv 2) (pe_callB (id := "len") (r := _) Rd.c_lenS (by rfl) T.n_len (by decide +kernel) (pa_cons (pv 4) pa_nil))))) (pv 4) (nomark _))
  (pss_cons (ps_expr (pe_bm PySem.F.plainAttrs_list PySem.F.slot_list_append PySem.F.type_list_append mt_append (pe_ix (r := rIxL K) ix_list (pv 3) (pv 2) (fun _ _ => rfl)) (pa_cons (pe_op op_add (pv 2) (pe_callB (id := "len") (r := _) Rd.c_lenS (by rfl) T.n_len (by decide +kernel) (pa_cons (pv 4) pa_nil))) pa_nil)))
  (pss_one (ps_expr (pe_bm PySem.F.plainAttrs_list PySem.F.slot_list_append PySem.F.type_list_append mt_append (pe_ix (r := rIxL K) ix_list (pv 3) (pe_op op_add (pv 2) (pe_callB (id := "len") (r := _) Rd.c_lenS (by rfl) T.n_len (by decide +kernel) (pa_cons (pv 4) pa_nil))) (fun _ _ => rfl)) (pa_cons (pv 2) pa_nil)))))
  pss_nil)))))
  (pss_one (ps_ret (pe_lc (own := [("row", 5)]) (g := gName 5) (tt := tYes) rfl sc_links_of.nd (pi_list (pv 3)) (blkOk_by (own := [("row", 5)]) (N := ["watches", "word", "spot", "found", "watch", "row"]) (sc := defScope s_links_of) (by decide +kernel)) (fun _ _ _ _ _ => (pg_name (i := 5) sc_links_of.nd rfl (.inl rfl))) (fun _ _ _ _ _ => pts_nil) (fun _ _ _ _ _ => (pe_callB (id := "sorted") (r := rSortedI K) cr_sortedI (by rfl) T.n_sorted (by decide +kernel) (pa_cons (pv 5) pa_nil)))))))), ?_⟩
    have zl : z.length ≤ sizeLine := by rw [sizeLine_eq]; omega
    walk_at "rd"
    refine Rd.lenStr zl ?_
    walk_at "rd"
    refine ⟨by omega, by omega, ?_⟩
    rw [show ((z.length : Int) + 1).toNat = z.length + 1 by omega]
    refine Rd.lcS walk_range (fun _ _ => trivial) (fun D i acc Hc => ∃ rs : List Addr, acc = rs.map V.ref ∧ rs.length = i ∧ rs.Nodup ∧ (∀ r ∈ rs, H r = none ∧ r ≠ D) ∧ ∀ r ∈ rs, Hc r = some (.lst [])) (fun _ _ _ _ _ => ⟨[], rfl, rfl, .nil, fun _ h => by simp at h, fun _ h => by simp at h⟩) ?_ ?_
    · rintro D i x G _ acc nD hi hD sm ⟨rs, rfl, ln, nd, h1, h2⟩ ⟨rfl, rfl⟩
      walk_at "rd"
      refine ⟨rfl, Rd.tyes ?_⟩
      walk_at "rd"
      refine ⟨Nat.zero_le _, Rd.new fun r G1 nr gr s1 => ?_⟩
      refine Rd.lcPush (s1 _ _ hD) nD (sm.trans s1) (by rw [List.length_map, ln, sizeLine_eq]; omega) fun G2 g2 off2 => ?_
      have rD : r ≠ D := (ne_of_none hD nr).symm
      have out : ∀ q ∈ rs, q ≠ r := fun q hq => ne_of_none (h2 q hq) nr
      refine ⟨rs ++ [r], by rw [List.map_append]; rfl, by rw [List.length_append, ln]; rfl, ?_, fun q hq => ?_, fun q hq => ?_⟩
      · rw [List.nodup_append]
        exact ⟨nd, by simp, fun q hq y hy e => out q hq (by simp at hy; rw [e, hy])⟩
      · rcases List.mem_append.mp hq with h | h
        · exact h1 q h
        · simp at h
          subst h
          exact ⟨sm.free nr, rD⟩
      · rcases List.mem_append.mp hq with h | h
        · rw [off2 q (h1 q h).2]
          exact s1 _ _ (h2 q h)
        · simp at h
          subst h
          rw [off2 q rD]
          exact gr
    · rintro f acc G nf hf sm ⟨rs, rfl, ln, nd, h1, h2⟩
      walk_at "rd"
      have sf0 : SoFar H G f rs z.length (fun _ => []) := ⟨sm, hf, ⟨nd, fun i r e => h2 r (List.mem_of_getElem? e)⟩, ln, h1⟩
      refine Ru.for_row (a := a) (xs := ws.map V.str) (fun Q q => ?_) (fun k σ H' => ∃ o1 o2 F, σ = [some (.ref a), some (.str z), o1, some (.ref f), o2, none] ∧ SoFar H H' f rs z.length F ∧ (∀ i, i ≤ z.length → ∀ x, x ∈ F i ↔ ∃ j : Nat, x = j ∧ Mw.Adj (ws.take k) z i j) ∧ ∀ i, (F i).length ≤ 2 * (k * (z.length + 1)) ∧ (ws.Nodup → (F i).Nodup)) hS
        ⟨_, _, _, rfl, sf0, fun i _ x => ⟨fun h => by simp at h, fun ⟨j, _, h⟩ => absurd h Mw.adj_nil⟩, fun i => ⟨Nat.zero_le _, fun _ => .nil⟩⟩ (fun i σ H' _ ⟨_, _, _, _, z, _⟩ => z.sm) ?_ ?_
      · walk_at "rd"
        exact q
      · rintro k x _ H' hx ⟨o1, o2, F, rfl, sf, hF, lF⟩
        obtain ⟨W, hW, rfl⟩ := Rd.map_strG hx
        have wl := hw W (List.mem_of_getElem? hW)
        have wz : W.length ≤ sizeLine := by rw [sizeLine_eq]; omega
        have kl : k < ws.length := (List.getElem?_eq_some_iff.mp hW).1
        walk_at "rd"
        refine Rd.forS ?_
        walk_at "rd"
        refine Rd.lenStr zl ?_
        walk_at "rd"
        refine Rd.lenStr wz ?_
        walk_at "rd"
        refine ⟨by omega, by omega, ?_⟩
        refine for_range (lo := 0) (n := ((z.length : Int) - (W.length : Int) + 1).toNat) (fun m σ H' => ∃ o1 F, σ = [some (.ref a), some (.str z), o1, some (.ref f), some (.str W), none] ∧ SoFar H H' f rs z.length F ∧ (∀ i, i ≤ z.length → ∀ x, x ∈ F i ↔ ∃ j : Nat, x = j ∧ Mw.AdjB (ws.take k) W z m i j) ∧ ∀ i, (F i).length ≤ 2 * (k * (z.length + 1) + m) ∧ (ws.Nodup → (F i).Nodup))
          ⟨_, F, rfl, sf, fun i hi x => (hF i hi x).trans (exists_congr fun j => and_congr_right fun _ => Mw.adjB_zero.symm), lF⟩ ?_ ?_
        · rintro m _ H1 hm ⟨o1, F, rfl, sf, hF, lF⟩
          have mz : m + W.length ≤ z.length := by omega
          have kz : k * (z.length + 1) ≤ 100 * 1001 := Nat.mul_le_mul (by omega) (by omega)
          have small : ∀ i, (F i).length < sizeLine := fun i => by have := (lF i).1; rw [sizeLine_eq]; omega
          walk_at "rd"
          rw [Int.zero_add]
          refine Rd.lenStr wz ?_
          walk_at "rd"
          refine Rd.slS zl ?_
          walk_at "rd"
          refine ite2 (fun q => ?_) (fun q => ?_)
          · have oc : Mw.Occ W z m := ⟨mz, q⟩
            walk_at "rd"
            obtain ⟨r, e1, e2, e3⟩ := sf.row (i := m) (by omega)
            refine Rd.ixL (.of sf.hf) e3 ?_
            refine Rd.tyL (.of e2) ?_
            walk_at "rd"
            refine Rd.lenStr wz ?_
            walk_at "rd"
            refine Rd.app e2 (by rw [List.length_map]; exact small m) fun G1 g1 off1 => ?_
            have sf1 := sf.put e1 g1 off1
            walk_at "rd"
            refine Rd.lenStr wz ?_
            walk_at "rd"
            obtain ⟨r', d1, d2, d3⟩ := sf1.row (i := m + W.length) mz
            rw [show ((m + W.length : Nat) : Int) = (m : Int) + (W.length : Int) by omega] at d3
            have ne : ¬ m + W.length = m := by omega
            rw [if_neg ne] at d2
            refine Rd.ixL (.of sf1.hf) d3 ?_
            refine Rd.tyL (.of d2) ?_
            walk_at "rd"
            refine Rd.app d2 (by rw [List.length_map]; exact small _) fun G2 g2 off2 => ?_
            have sf2 := sf1.put (x := (m : Int)) d1 (by rw [if_neg ne]; exact g2) off2
            walk_at "rd"
            have fr : ws.Nodup → ((m : Int) + (W.length : Int)) ∉ F m ∧ (m : Int) ∉ F (m + W.length) := fun nd => by
              have ⟨f1, f2⟩ := adj_fresh nd hW (fun W m => (hw W m).1) oc
              constructor
              · intro h
                obtain ⟨j, e, a⟩ := (hF m (by omega) _).mp h
                rw [show j = m + W.length by omega] at a
                exact f1 a
              · intro h
                obtain ⟨j, e, a⟩ := (hF (m + W.length) mz _).mp h
                rw [show j = m by omega] at a
                exact f2 a
            have ndp : ∀ {l : List Int} {x : Int}, l.Nodup → x ∉ l → (l ++ [x]).Nodup := fun h n => by
              rw [List.nodup_append]
              exact ⟨h, by simp, fun a ha b hb e => n (by simp at hb; rw [← hb, ← e]; exact ha)⟩
            refine ⟨_, _, rfl, sf2, fun i hi x => ?_, fun i => ?_⟩
            · have base := hF i hi x
              have yes : ∀ j, Mw.AdjB (ws.take k) W z (m + 1) i j ↔ Mw.AdjB (ws.take k) W z m i j ∨ (i = m ∧ j = m + W.length) ∨ (j = m ∧ i = m + W.length) := fun j => Mw.adjB_yes oc
              simp only [yes]
              by_cases c1 : i = m + W.length
              · subst c1
                rw [if_pos rfl, if_neg ne, List.mem_append, base]
                constructor
                · rintro (⟨j, h1, h2⟩ | h)
                  · exact ⟨j, h1, .inl h2⟩
                  · exact ⟨m, by simpa using h, .inr (.inr ⟨rfl, rfl⟩)⟩
                · rintro ⟨j, h1, h2 | ⟨h2, _⟩ | ⟨h2, _⟩⟩
                  · exact .inl ⟨j, h1, h2⟩
                  · omega
                  · exact .inr (by simp; omega)
              · rw [if_neg c1]
                by_cases c2 : i = m
                · subst c2
                  rw [if_pos rfl, List.mem_append, base]
                  constructor
                  · rintro (⟨j, h1, h2⟩ | h)
                    · exact ⟨j, h1, .inl h2⟩
                    · exact ⟨_, by simpa using h, .inr (.inl ⟨rfl, rfl⟩)⟩
                  · rintro ⟨j, h1, h2 | ⟨_, h2⟩ | ⟨_, h2⟩⟩
                    · exact .inl ⟨j, h1, h2⟩
                    · exact .inr (by simp; omega)
                    · omega
                · rw [if_neg c2, base]
                  constructor
                  · rintro ⟨j, h1, h2⟩
                    exact ⟨j, h1, .inl h2⟩
                  · rintro ⟨j, h1, h2 | ⟨h2, _⟩ | ⟨_, h2⟩⟩
                    · exact ⟨j, h1, h2⟩
                    · exact absurd h2 c2
                    · exact absurd h2 c1
            · have b1 := lF i
              have b2 := lF m
              have b3 := lF (m + W.length)
              refine ⟨?_, fun nd => ?_⟩
              rotate_left
              · show (if i = m + W.length then (if m + W.length = m then F m ++ [(m : Int) + (W.length : Int)] else F (m + W.length)) ++ [(m : Int)] else if i = m then F m ++ [(m : Int) + (W.length : Int)] else F i).Nodup
                rw [if_neg ne]
                split
                · exact ndp (b3.2 nd) (fr nd).2
                · split
                  · exact ndp (b2.2 nd) (fr nd).1
                  · exact b1.2 nd
              replace b1 := b1.1
              replace b2 := b2.1
              replace b3 := b3.1
              show (if i = m + W.length then (if m + W.length = m then F m ++ [(m : Int) + (W.length : Int)] else F (m + W.length)) ++ [(m : Int)] else if i = m then F m ++ [(m : Int) + (W.length : Int)] else F i).length ≤ _
              rw [if_neg ne]
              split
              · rw [List.length_append, List.length_singleton]; omega
              · split
                · rw [List.length_append, List.length_singleton]; omega
                · omega
          · have oc : ¬ Mw.Occ W z m := fun h => q h.2
            walk_at "rd"
            exact ⟨_, F, rfl, sf, fun i hi x => (hF i hi x).trans (exists_congr fun j => and_congr_right fun _ => (Mw.adjB_no oc).symm), fun i => ⟨by have := (lF i).1; omega, (lF i).2⟩⟩
        · rintro _ H1 ⟨o1, F, rfl, sf, hF, lF⟩
          walk_at "rd"
          refine ⟨_, _, F, rfl, sf, fun i hi x => (hF i hi x).trans (exists_congr fun j => and_congr_right fun _ => ?_), fun i => ?_⟩
          · rw [Rd.take_snoc hW]
            exact Mw.adjB_all (by omega)
          · refine ⟨?_, (lF i).2⟩
            have := (lF i).1
            have e : (k + 1) * (z.length + 1) = k * (z.length + 1) + (z.length + 1) := Nat.succ_mul _ _
            omega
      · rintro _ G1 ⟨o1, o2, F, rfl, sf, hF, lF⟩
        rw [List.length_map, List.take_length] at hF
        have big : ∀ i, (F i).length ≤ 1000000 := fun i => by
          have h1 := (lF i).1
          rw [List.length_map] at h1
          have h2 : ws.length * (z.length + 1) ≤ 100 * 1001 := Nat.mul_le_mul l1 (by omega)
          omega
        walk_at "rd"
        refine ⟨⟨_, .of sf.hf⟩, Rd.lcS walk_list (fun _ s => .of (s _ _ sf.hf)) (fun D i acc Hc => ∃ qs : List Addr, acc = qs.map V.ref ∧ qs.length = i ∧ (∀ q ∈ qs, q ≠ D ∧ H q = none) ∧ ∀ j q, qs[j]? = some q → ∃ ms : List Int, Hc q = some (.lst (ms.map V.int)) ∧ ms.Pairwise (· ≤ ·) ∧ ms.Perm (F j)) (fun _ _ _ _ _ => ⟨[], rfl, rfl, fun _ h => by simp at h, fun _ _ h => by simp at h⟩) ?_ ?_⟩
        · rintro D i x G2 _ acc nD hi hD sm2 ⟨qs, rfl, ql, qD, hq⟩ ⟨rfl, hx⟩
          obtain ⟨r, hr, rfl⟩ := Rd.map_refG hx
          walk_at "rd"
          refine ⟨rfl, Rd.tyes ?_⟩
          walk_at "rd"
          refine Rd.sortedI (.of (sm2 _ _ (sf.ro.2 i r hr))) fun ms p G3 pm ps gp s3 np => ?_
          have pD : p ≠ D := (ne_of_none hD np).symm
          refine Rd.lcPush (s3 _ _ hD) nD (sm2.trans s3) (by rw [List.length_map, ql, sizeLine_eq]; rw [List.length_map, ln] at hi; omega) fun G4 g4 off4 => ?_
          refine ⟨qs ++ [p], by rw [List.map_append]; rfl, by rw [List.length_append, ql]; rfl, fun q h => ?_, fun j q h => ?_⟩
          · rcases List.mem_append.mp h with h | h
            · exact qD q h
            · simp at h
              rw [h]
              exact ⟨pD, sf.sm.free (sm2.free np)⟩
          · rcases Nat.lt_or_ge j qs.length with l | l
            · rw [List.getElem?_append_left l] at h
              obtain ⟨ms', h1, h2, h3⟩ := hq j q h
              exact ⟨ms', by rw [off4 q (qD q (List.mem_of_getElem? h)).1]; exact s3 _ _ h1, h2, h3⟩
            · rw [List.getElem?_append_right l] at h
              have e : j = i := by
                have := (List.getElem?_eq_some_iff.mp h).1
                simp at this
                omega
              subst e
              rw [ql, Nat.sub_self] at h
              cases h
              exact ⟨ms, by rw [off4 _ pD]; exact gp, ps, pm⟩
        · rintro D acc G2 nD hD sm2 ⟨qs, rfl, ql, qD, hq⟩
          rw [List.length_map, ln] at ql
          refine k D G2 ⟨qs, .of hD, ql, fun i q h => ?_⟩ (sf.sm.trans sm2) (sf.sm.free nD) fun nd => ⟨qs, .of hD, ql, fun i q h => ?_⟩
          · obtain ⟨ms, h1, h2, h3⟩ := hq i q h
            exact ⟨ms, .of h1, ⟨h2, by rw [h3.length_eq]; exact big i⟩, fun x => h3.mem_iff.trans (hF i (by have := (List.getElem?_eq_some_iff.mp h).1; omega) x)⟩
          · obtain ⟨ms, h1, h2, h3⟩ := hq i q h
            exact ⟨ms, .of h1, sorted_lt h2 (h3.nodup_iff.mpr ((lF i).2 nd)), ⟨h1, (qD q (List.mem_of_getElem? h)).2⟩, fun x => h3.mem_iff.trans (hF i (by have := (List.getElem?_eq_some_iff.mp h).1; omega) x)⟩

end
end W

namespace W
open PySem PySem.Spec PyProof.Rows L2
section
variable {P : Program} {w : World} {K : PySem.W.Frag} {mg : Str → Option Value} {base : Heap}
/-! ### grown: all that is led to -/
def sp_grown (K : PySem.W.Frag) : Sp := fun vs H Q _ => ∃ (p q : Addr) (n : Nat) (A : Nat → Nat → Prop) (ss : List Int), vs = [.ref p, .ref q] ∧ Links K H p n A ∧ SqL K H q (ss.map V.int) ∧ n ≤ 1000 ∧ (∀ i j, A i j → j ≤ n) ∧ ss.Nodup ∧ (∀ s ∈ ss, 0 ≤ s ∧ s ≤ n) ∧
  ∀ (r : Addr) (gs : List Int) H', H' r = some (.lst (gs.map V.int)) → gs.Nodup → (∀ x, x ∈ gs ↔ ∃ i : Nat, x = i ∧ ∃ s : Nat, (s : Int) ∈ ss ∧ Mw.Star A s i) → Same H H' → H r = none → Q (.ref r) H'
theorem ok_grown (T : Txt K mg) : FnOk P w K mg base CX0 1 T.f_grown T.fd_grown ["links", "spots"] (sp_grown K) := by
  refine T.F_grown.ok sc_grown (fun vs H Q E h => ?_) (fun cdv A outer s H vs Q E hr h => ?_)
  · obtain ⟨p, q, n, A, ss, rfl, _⟩ := h
    rfl
  · obtain ⟨p, q, n, A, ss, rfl, hL, hq, hn, hA, nd, hs, k⟩ := h
    refine ⟨_, (pss_cons (ps_set (i := 2) sc_grown.nd rfl (.inl rfl) (pe_callTy (T := "list") (r := Rd.nListOf K) Rd.c_listOf (by rfl) T.n_list (by decide +kernel) (pa_cons (pv 1) pa_nil)))
  (pss_cons (ps_set (i := 3) sc_grown.nd rfl (.inl rfl) pe_int)
  (pss_cons (ps_while PassesOwn.never (pt_cmpR op_lt (pv 3) (pe_callB (id := "len") (r := Rd.nLen K) Rd.c_len (by rfl) T.n_len (by decide +kernel) (pa_cons (pv 2) pa_nil)) (nomark _))
  (pss_cons (ps_for PassesOwn.never rfl (pi_list (pe_ix (r := rIxL K) ix_list (pv 0) (pe_ix (r := rIxL K) ix_list (pv 2) (pv 3) (fun _ _ => rfl)) (fun _ _ => rfl))) (pg_name (i := 4) sc_grown.nd rfl (.inl rfl))
  (pss_one (ps_if (pt_cmpR (r := rIn K true) op_notIn_seq (pv 4) (pv 2) (by rfl))
  (pss_one (ps_expr (pe_bm PySem.F.plainAttrs_list PySem.F.slot_list_append PySem.F.type_list_append mt_append (pv 2) (pa_cons (pv 4) pa_nil))))
  pss_nil)))
  (pss_one (ps_aug (i := 3) sc_grown.nd rfl (.inl rfl) pe_int ip_add))))
  (pss_one (ps_ret (pv 2)))))), ?_⟩
    walk_at "rd"
    refine Rd.listOf (.inl hq) (Rd.new fun f G nf gf sG => ?_)
    walk_at "rd"
    obtain ⟨rs, hp, rl, hr⟩ := hL
    refine Rd.whl (fun m σ H' => ∃ (gs : List Int) (at_ : Nat) (o : Option V), σ = [some (.ref p), some (.ref q), some (.ref f), some (.int at_), o] ∧ H' f = some (.lst (gs.map V.int)) ∧ Same H H' ∧ gs.Nodup ∧ (∀ x ∈ gs, ∃ i : Nat, x = i ∧ i ≤ n ∧ ∃ s : Nat, (s : Int) ∈ ss ∧ Mw.Star A s i) ∧ (∀ x ∈ ss, x ∈ gs) ∧ at_ ≤ gs.length ∧ (∀ (k : Nat) (i j : Nat), k < at_ → gs[k]? = some (i : Int) → A i j → (j : Int) ∈ gs) ∧ m = n + 1 - at_)
      ⟨n + 1, ss, 0, none, rfl, gf, sG, nd, fun x hx => ⟨x.toNat, by have := hs x hx; omega, by have := hs x hx; omega, x.toNat, by have := hs x hx; rw [show ((x.toNat : Nat) : Int) = x by omega]; exact hx, .refl⟩, fun x h => h, Nat.zero_le _, fun k i j h => by omega, rfl⟩ ?_
    rintro m _ H1 ⟨gs, at_, o, rfl, hf, sm, gnd, hg, hss, la, cl, rfl⟩
    have gl : gs.length ≤ n + 1 := Mw.nodup_range gnd fun x hx => by obtain ⟨i, e, l, _⟩ := hg x hx; omega
    walk_at "rd"
    refine Rd.len (.inl (.of hf)) ?_
    rw [List.length_map]
    walk_at "rd"
    refine ite2 (fun c => ?_) (fun c => ?_)
    · refine Rd.whN ?_
      walk_at "rd"
      have al : at_ < gs.length := by omega
      obtain ⟨i, ei, il, si⟩ := hg _ (List.getElem_mem al)
      have hrow : i < rs.length := by omega
      obtain ⟨ms, m1, _, m2⟩ := hr i _ (List.getElem?_eq_getElem hrow)
      refine Rd.forS ?_
      walk_at "rd"
      refine Rd.ixL (.of hf) (atI_nat (Rd.map_int al)) ?_
      refine Rd.ixL (sm.seq hp) (by rw [ei]; exact atI_nat (Rd.map_ref hrow)) ?_
      walk_at "rd"
      refine ⟨⟨_, sm.seq m1⟩, for_list (K := K) (a := rs[i]) (xs := ms.map V.int) (fun t σ H' => ∃ (gs' : List Int) (o : Option V), σ = [some (.ref p), some (.ref q), some (.ref f), some (.int at_), o] ∧ H' f = some (.lst (gs'.map V.int)) ∧ Same H H' ∧ gs'.Nodup ∧ (∀ x ∈ gs', ∃ i : Nat, x = i ∧ i ≤ n ∧ ∃ s : Nat, (s : Int) ∈ ss ∧ Mw.Star A s i) ∧ (∃ ex, gs' = gs ++ ex) ∧ ∀ x ∈ ms.take t, x ∈ gs')
        ⟨gs, _, rfl, hf, sm, gnd, hg, ⟨[], by simp⟩, fun x h => by simp at h⟩ (fun t σ H' _ ⟨_, _, _, _, s, _⟩ => s.seq m1) ?_ ?_⟩
      · rintro t y0 _ H2 hy0 ⟨gs', o, rfl, hf2, sm2, gnd2, hg2, ⟨ex, he⟩, ht⟩
        obtain ⟨y, hy, rfl⟩ := Rd.map_get hy0
        obtain ⟨j, ej, aj⟩ := (m2 y).mp (List.mem_of_getElem? hy)
        have gl2 : gs'.length ≤ n + 1 := Mw.nodup_range gnd2 fun x hx => by obtain ⟨i, e, l, _⟩ := hg2 x hx; omega
        walk_at "rd"
        refine Rd.inIntsN (.inl (.of hf2)) ?_
        walk_at "rd"
        refine ite2 (fun c2 => ?_) (fun c2 => ?_)
        · walk_at "rd"
          refine ⟨gs', _, rfl, hf2, sm2, gnd2, hg2, ⟨ex, he⟩, fun x hx => ?_⟩
          rw [Rd.take_snoc hy] at hx
          rcases List.mem_append.mp hx with h | h
          · exact ht x h
          · simp at h
            rw [h]
            exact c2
        · walk_at "rd"
          refine Rd.tyL (.of hf2) ?_
          walk_at "rd"
          refine Rd.app hf2 (by rw [List.length_map, sizeLine_eq]; omega) fun G3 g3 off3 => ?_
          walk_at "rd"
          refine ⟨gs' ++ [y], _, rfl, by rw [List.map_append]; exact g3, fun b o e => ?_, ?_, fun x hx => ?_, ⟨ex ++ [y], by rw [he, List.append_assoc]⟩, fun x hx => ?_⟩
          · rw [off3 b (ne_of_none e nf)]
            exact sm2 b o e
          · rw [List.nodup_append]
            exact ⟨gnd2, by simp, fun x hx z hz e => c2 (by simp at hz; rw [← hz, ← e]; exact hx)⟩
          · rcases List.mem_append.mp hx with h | h
            · exact hg2 x h
            · simp at h
              obtain ⟨s, h1, h2⟩ := si
              exact ⟨j, by rw [h, ej], hA _ _ aj, s, h1, .step h2 aj⟩
          · rw [Rd.take_snoc hy] at hx
            rcases List.mem_append.mp hx with h | h
            · exact List.mem_append.mpr (.inl (ht x h))
            · exact List.mem_append.mpr (.inr h)
      · rintro _ H2 ⟨gs', o, rfl, hf2, sm2, gnd2, hg2, ⟨ex, he⟩, ht⟩
        rw [List.length_map, List.take_length] at ht
        have gl2 : gs'.length ≤ n + 1 := Mw.nodup_range gnd2 fun x hx => by obtain ⟨i, e, l, _⟩ := hg2 x hx; omega
        have lex : gs'.length = gs.length + ex.length := by rw [he, List.length_append]
        walk_at "rd"
        refine ⟨n + 1 - (at_ + 1), by omega, gs', at_ + 1, o, by rw [Int.natCast_add]; rfl, hf2, sm2, gnd2, hg2, fun x hx => by rw [he]; exact List.mem_append.mpr (.inl (hss x hx)), by omega, fun k i' j hk e a => ?_, rfl⟩
        · have kl : k < gs.length := by omega
          have e' : gs[k]? = some (i' : Int) := by
            rw [he, List.getElem?_append_left kl] at e
            exact e
          rcases Nat.lt_succ_iff_lt_or_eq.mp hk with l | l
          · rw [he]
            exact List.mem_append.mpr (.inl (cl k i' j l e' a))
          · subst l
            have : (i' : Int) = (i : Int) := by
              rw [List.getElem?_eq_getElem al] at e'
              rw [← ei]
              exact (Option.some.inj e').symm
            have : i' = i := by omega
            subst this
            exact ht _ ((m2 _).mpr ⟨j, rfl, a⟩)
    · walk_at "rd"
      have e : at_ = gs.length := by omega
      refine k f gs H1 hf gnd (fun x => ⟨fun hx => ?_, ?_⟩) sm nf
      · obtain ⟨i, e1, _, s, h1, h2⟩ := hg x hx
        exact ⟨i, e1, s, h1, h2⟩
      · rintro ⟨i, rfl, s, h1, h2⟩
        induction h2 with
        | refl => exact hss _ h1
        | step _ a ih =>
          obtain ⟨k, hk, e2⟩ := List.getElem_of_mem ih
          exact cl k _ _ (by omega) (by rw [List.getElem?_eq_getElem hk, e2]) a

/-! ### leads, leads_all, tells -/
def sp_leads (K : PySem.W.Frag) : Sp := fun vs H Q _ => ∃ (a : Addr) (ws : List Str) (z : Str), vs = [.ref a, .str z] ∧ Ru.SqR K H a (ws.map V.str) ∧ (∀ W ∈ ws, 1 ≤ W.length ∧ W.length ≤ 1000) ∧ ws.length ≤ 100 ∧ z.length ≤ 1000 ∧ ∀ (b : Bool) H', Same H H' → (b = true ↔ Mw.Told ws z) → Q (.bl b) H'
def sp_check_words (K : PySem.W.Frag) : Sp := fun vs H Q _ => ∃ (a : Addr) (zs : List Str), vs = [.ref a] ∧ Ru.SqR K H a (zs.map V.str) ∧ zs.length ≤ 20 ∧ (∀ z ∈ zs, Lt.Wd 40 z) ∧ ∀ H', Same H H' → Q .non H'
def sp_leads_all (K : PySem.W.Frag) : Sp := fun vs H Q _ => ∃ (a b : Addr) (ws zs : List Str), vs = [.ref a, .ref b] ∧ Ru.SqR K H a (ws.map V.str) ∧ (∀ W ∈ ws, 1 ≤ W.length ∧ W.length ≤ 1000) ∧ ws.length ≤ 100 ∧ Ru.SqR K H b (zs.map V.str) ∧ (∀ z ∈ zs, z.length ≤ 1000) ∧ zs.length ≤ 1000 ∧ ∀ (b : Bool) H', Same H H' → (b = true ↔ ∀ z ∈ zs, Mw.Told ws z) → Q (.bl b) H'
def sp_tells (K : PySem.W.Frag) (C : Addr) : Sp := fun vs H Q _ => ∃ (a b : Addr) (ws zs : List Str), vs = [.ref a, .ref b] ∧ BookAt C H a ws ∧ Watches ws ∧ Ru.SqR K H b (zs.map V.str) ∧ zs.length ≤ 20 ∧ (∀ z ∈ zs, Lt.Wd 40 z) ∧ ∀ (b : Bool) H', Same H H' → (b = true ↔ ∀ z ∈ zs, Mw.Told ws z) → Q (.bl b) H'
theorem ok_leads (T : Txt K mg) : FnOk P w K mg base CX0 2 T.f_leads T.fd_leads ["watches", "word"] (sp_leads K) := by
  refine T.F_leads.ok sc_leads (fun vs H Q E h => ?_) (fun cdv A outer s H vs Q E hr h => ?_)
  · obtain ⟨a, ws, z, rfl, _⟩ := h
    rfl
  · obtain ⟨a, ws, z, rfl, hS, hw, l1, l2, k⟩ := h
    refine ⟨_, (pss_one (ps_ret (pe_cmpR (r := rIn K false) op_in_seq (pe_callB (id := "len") (r := _) Rd.c_lenS (by rfl) T.n_len (by decide +kernel) (pa_cons (pv 1) pa_nil)) (pe_call (ok_grown T) (hr.mono (by decide)) rfl T.g_grown T.F_grown.kp T.b_grown .nil pass0 (pa_cons (pe_call (ok_links_of T) (hr.mono (by decide)) rfl T.g_links_of T.F_links_of.kp T.b_links_of .nil pass0 (pa_cons (pv 0) (pa_cons (pv 1) pa_nil))) (pa_cons (pe_lst (pa_cons pe_int pa_nil)) pa_nil))) (by rfl)))), ?_⟩
    walk_at "rd"
    refine Rd.lenStr (by rw [sizeLine_eq]; omega) ?_
    walk_at "rd"
    refine ⟨a, ws, z, rfl, hS, hw, l1, l2, fun p H1 hL s1 _ _ => ?_⟩
    walk_at "rd"
    refine ⟨Nat.le_of_ble_eq_true rfl, Rd.new fun q G2 nq gq s2 => ?_⟩
    refine ⟨p, q, z.length, Mw.Adj ws z, [0], rfl, hL.same s2, .of gq, l2, fun i j h => h.le.2, by simp, fun s h => by simp at h; omega, fun r gs H3 hr gnd hg s3 _ => ?_⟩
    refine Rd.inIntsY (.inl (.of hr)) ?_
    refine k _ _ ((s1.trans s2).trans s3) ?_
    rw [decide_eq_true_iff, hg]
    constructor
    · rintro ⟨i, e, s, hs, h⟩
      have e1 : i = z.length := by omega
      have e2 : s = 0 := by simp at hs; omega
      subst e1 e2
      exact h
    · intro h
      exact ⟨z.length, rfl, 0, by simp, h⟩
theorem ok_check_words (T : Txt K mg) : FnOk P w K mg base CX0 4 T.f_check_words T.fd_check_words ["words"] (sp_check_words K) := by
  refine T.F_check_words.ok sc_check_words (fun vs H Q E h => ?_) (fun cdv A outer s H vs Q E hr h => ?_)
  · obtain ⟨a, zs, rfl, _⟩ := h
    rfl
  · obtain ⟨a, zs, rfl, hS, l1, hz, k⟩ := h
    refine ⟨_, (pss_cons (ps_if (PW.pt (pw_or (pt_not (pt_val (pe_callB (id := "isinstance") (r := rIsiT K) call_isiT (by rfl) T.n_isinstance (by decide +kernel) (pa_cons (pv 0) (pa_cons (pe_tup (pa_cons (pe_bltn (v := .ty "list") (u := .type "list") (by rfl) T.n_list (by decide +kernel) rfl) (pa_cons (pe_bltn (v := .ty "tuple") (u := .type "tuple") (by rfl) T.n_tuple (by decide +kernel) rfl) pa_nil))) pa_nil))))) (pw_or1 (pt_cmpR op_gt (pe_callB (id := "len") (r := Rd.nLen K) Rd.c_len (by rfl) T.n_len (by decide +kernel) (pa_cons (pv 0) pa_nil)) (pe_glob (v := .int 20) rfl T.m_MOST_WORDS ⟨_, rfl⟩) (nomark _)))))
  (pss_one ps_never)
  pss_nil)
  (pss_one (ps_for PassesOwn.never rfl (Ru.pi_or (pi_enum (by rfl) T.n_enumerate (pa_cons (pv 0) pa_nil)) (Ru.pi_enumT (by rfl) T.n_enumerate (pa_cons (pv 0) pa_nil))) (pg_tup rfl (pgs_cons (pg_name (i := 1) sc_check_words.nd rfl (.inl rfl)) (pgs_cons (pg_name (i := 2) sc_check_words.nd rfl (.inl rfl)) pgs_nil)))
  (pss_one (ps_if (pt_not (pt_val (pe_call (ok_is_word T) (hr.mono (by decide)) rfl T.g_is_word T.F_is_word.kp T.b_is_word .nil pass0 (pa_cons (pv 2) pa_nil))))
  (pss_one ps_never)
  pss_nil))))), ?_⟩
    walk_at "rd"
    refine ⟨Nat.le_of_ble_eq_true rfl, Rd.new fun p G hp gp sG => ?_⟩
    walk_at "rd"
    refine Ru.isRow (hS.same sG) gp ?_
    walk_at "rd"
    refine Rd.len (hS.same sG) ?_
    rw [List.length_map]
    walk_at "rd"
    walk_at "no"
    walk_at "rd"
    refine Ru.for_enumR (a := a) (xs := zs.map V.str) (fun Q q => ?_) (fun i σ H' => ∃ x y, σ = [some (.ref a), x, y] ∧ Same G H') (hS.same sG) ⟨_, _, rfl, Same.refl _⟩ (fun i σ H' _ ⟨_, _, _, z⟩ => z) ?_ ?_
    · walk_at "rd"
      exact q
    · rintro i x _ H' t hx ⟨_, _, rfl, sm⟩ hT
      obtain ⟨z, hn, rfl⟩ := Rd.map_strG hx
      refine Rd.tupT (.of upd_same) rfl ?_
      walk_at "rd"
      refine ⟨z, rfl, hz z (List.mem_of_getElem? hn), fun H1 s1 => ?_⟩
      walk_at "rd"
      exact ⟨_, _, rfl, (sm.trans (Rd.same_upd hT)).trans s1⟩
    · rintro _ H' ⟨_, _, rfl, sm⟩
      walk_at "rd"
      exact k _ (Same.trans sG sm)
theorem all_told {ws : List Str} : ∀ (zs : List Str) (bs : List Bool), bs.length = zs.length → (∀ (i : Nat) z b, zs[i]? = some z → bs[i]? = some b → (b = true ↔ Mw.Told ws z)) → (bs.all id = true ↔ ∀ z ∈ zs, Mw.Told ws z)
  | [], [], _, _ => by simp
  | z :: zs, b :: bs, l, h => by
    have h0 := h 0 z b rfl rfl
    have ih := all_told zs bs (by simpa using l) fun i z b e1 e2 => h (i + 1) z b (by simpa using e1) (by simpa using e2)
    rw [List.all_cons, Bool.and_eq_true, List.forall_mem_cons, ← ih, ← h0]
    rfl
theorem ok_leads_all (T : Txt K mg) : FnOk P w K mg base CX0 3 T.f_leads_all T.fd_leads_all ["watches", "words"] (sp_leads_all K) := by
  refine T.F_leads_all.ok sc_leads_all (fun vs H Q E h => ?_) (fun cdv A outer s H vs Q E hr h => ?_)
  · obtain ⟨a, b, ws, zs, rfl, _⟩ := h
    rfl
  · obtain ⟨a, b, ws, zs, rfl, hS, hw, l1, hz, lz, l2, k⟩ := h
    refine ⟨_, (pss_one (ps_ret (pe_callB (id := "all") (r := rAll K) (cr_all rfl) (by rfl) T.n_all (by decide +kernel) (pa_cons (pe_lc (own := [("word", 2)]) (g := gName 2) (tt := tYes) rfl sc_leads_all.nd (Ru.pi_or (pi_list (pv 1)) (pi_tup (pv 1))) (blkOk_by (own := [("word", 2)]) (N := ["watches", "words", "word"]) (sc := defScope s_leads_all) (by decide +kernel)) (fun _ _ _ _ _ => (pg_name (i := 2) sc_leads_all.nd rfl (.inl rfl))) (fun _ _ _ _ _ => pts_nil) (fun _ _ _ _ _ => (pe_call (ok_leads T) (hr.mono (by decide)) rfl T.g_leads T.F_leads.kp T.b_leads .nil pass0 (pa_cons (pv 0) (pa_cons (pv 2) pa_nil))))) pa_nil)))), ?_⟩
    walk_at "rd"
    refine Rd.lcRow (a := b) (fun R q => ?_) hz (fun D i acc Hc => ∃ bs : List Bool, acc = bs.map V.bl ∧ bs.length = i ∧ ∀ (j : Nat) z b, zs[j]? = some z → bs[j]? = some b → (b = true ↔ Mw.Told ws z)) (fun _ _ _ _ _ => ⟨[], rfl, rfl, fun _ _ _ _ h => by simp at h⟩) ?_ ?_
    · walk_at "rd"
      exact q
    · rintro D i x H1 acc nD hi hD sm ⟨bs, rfl, bl, hb⟩ hx
      obtain ⟨z, hzi, rfl⟩ := Rd.map_strG hx
      walk_at "rd"
      refine ⟨rfl, Rd.tyes ?_⟩
      walk_at "rd"
      refine ⟨a, ws, z, rfl, hS.same sm, hw, l1, lz z (List.mem_of_getElem? hzi), fun b1 H2 s2 e => ?_⟩
      refine Rd.lcPush (s2 _ _ hD) nD (sm.trans s2) (by rw [List.length_map, bl, sizeLine_eq]; rw [List.length_map] at hi; omega) fun G2 g2 off2 => ?_
      refine ⟨bs ++ [b1], by rw [List.map_append]; rfl, by rw [List.length_append, bl]; rfl, fun j z' b' e1 e2 => ?_⟩
      rcases Nat.lt_or_ge j bs.length with l | l
      · rw [List.getElem?_append_left l] at e2
        exact hb j z' b' e1 e2
      · rw [List.getElem?_append_right l] at e2
        have ej : j = i := by
          have := (List.getElem?_eq_some_iff.mp e2).1
          simp at this
          omega
        subst ej
        rw [bl, Nat.sub_self] at e2
        rw [hzi] at e1
        cases e1
        cases e2
        exact e
    · rintro D acc H1 nD hD sm ⟨bs, rfl, bl, hb⟩
      rw [List.length_map] at bl
      refine Rd.all (.of hD) ?_
      exact k _ _ sm (all_told zs bs bl hb)
theorem ok_tells (T : Txt K mg) : FnOk P w K mg base CX0 5 T.f_tells T.fd_tells ["book", "words"] (sp_tells K T.C_Book) := by
  refine T.F_tells.ok sc_tells (fun vs H Q E h => ?_) (fun cdv A outer s H vs Q E hr h => ?_)
  · obtain ⟨a, b, ws, zs, rfl, _⟩ := h
    rfl
  · obtain ⟨a, b, ws, zs, rfl, hB, L, hz, l2, lz, k⟩ := h
    refine ⟨_, (pss_cons (ps_expr (pe_call (ok_check_book T) (hr.mono (by decide)) rfl T.g_check_book T.F_check_book.kp T.b_check_book .nil pass0 (pa_cons (pv 0) pa_nil)))
  (pss_cons (ps_expr (pe_call (ok_check_words T) (hr.mono (by decide)) rfl T.g_check_words T.F_check_words.kp T.b_check_words .nil pass0 (pa_cons (pv 1) pa_nil)))
  (pss_one (ps_ret (pe_call (ok_leads_all T) (hr.mono (by decide)) rfl T.g_leads_all T.F_leads_all.kp T.b_leads_all .nil pass0 (pa_cons (pe_fld (pv 0) rfl) (pa_cons (pv 1) pa_nil))))))), ?_⟩
    walk_at "rd"
    refine ⟨a, ws, rfl, hB, ?_⟩
    walk_at "rd"
    refine ⟨b, zs, rfl, hz, l2, lz, fun H1 s1 => ?_⟩
    walk_at "rd"
    obtain ⟨dx, t, hb1, ht1⟩ := hB.same s1
    refine Rd.fld hb1 T.cl_Book T.na_Book_watches rfl ?_
    walk_at "rd"
    have l1 := L.l1
    refine ⟨t, b, ws, zs, rfl, .inr (.of ht1), fun W hW => ?_, by omega, hz.same s1, fun z h => ?_, by omega, fun b1 H2 s2 e => k _ _ (s1.trans s2) e⟩
    · have := L.ok W hW
      have := this.l0
      have := (L.ok W hW).l1
      omega
    · have := (lz z h).l1
      omega

end
end W

namespace W
open PySem PySem.Spec PyProof.Rows L2
section
variable {P : Program} {w : World} {K : PySem.W.Frag} {mg : Str → Option Value} {base : Heap}
/-! ### naturals as values -/
def natV (P : List Nat) : List V := (P.map fun i : Nat => (i : Int)).map V.int
theorem natV_len (P : List Nat) : (natV P).length = P.length := by
  unfold natV
  rw [List.length_map, List.length_map]
theorem natV_get {P : List Nat} {i : Nat} {x : V} (h : (natV P)[i]? = some x) : ∃ j, P[i]? = some j ∧ x = .int (j : Nat) := by
  unfold natV at h
  rw [List.map_map, List.getElem?_map] at h
  cases e : P[i]? with
  | none => rw [e] at h; cases h
  | some j => rw [e] at h; exact ⟨j, rfl, (Option.some.inj h).symm⟩
theorem mem_nat {P : List Nat} {i : Nat} : ((i : Int) ∈ P.map fun j : Nat => (j : Int)) ↔ i ∈ P := by
  rw [List.mem_map]
  constructor
  · rintro ⟨j, m, e⟩
    rw [show i = j by omega]
    exact m
  · exact fun m => ⟨i, m, rfl⟩
theorem paired_mono {α β : Type} {R S : α → β → Prop} {xs : List α} {ys : List β} (h : Paired R xs ys) (f : ∀ x y, R x y → S x y) : Paired S xs ys := by
  induction h with
  | nil => exact .nil
  | cons a _ ih => exact .cons (f _ _ a) ih
theorem paired_app {α β : Type} {R : α → β → Prop} {xs us : List α} {ys ws : List β} (h : Paired R xs ys) (k : Paired R us ws) : Paired R (xs ++ us) (ys ++ ws) := by
  induction h with
  | nil => exact k
  | cons a _ ih => exact .cons a ih
theorem paired_at {α β : Type} {R : α → β → Prop} {xs : List α} {ys : List β} (h : Paired R xs ys) : ∀ {i : Nat} {x : α}, xs[i]? = some x → ∃ y, ys[i]? = some y ∧ R x y := by
  induction h with
  | nil => intro i x e; simp at e
  | cons a _ ih =>
    intro i x e
    cases i with
    | zero => cases e; exact ⟨_, rfl, a⟩
    | succ i => exact ih e

end
end W

namespace W
open PySem PySem.Spec PyProof.Rows L2
section
variable {P : Program} {w : World} {K : PySem.W.Frag} {mg : Str → Option Value} {base : Heap}
/-! ### reached, classes, is_told -/
def sp_reached (K : PySem.W.Frag) : Sp := fun vs H Q _ => ∃ (p : Addr) (n : Nat) (A : Nat → Nat → Prop) (s : Nat), vs = [.ref p, .int (s : Nat)] ∧ Links K H p n A ∧ n ≤ 1000 ∧ (∀ i j, A i j → j ≤ n) ∧ s ≤ n ∧
  ∀ (r : Addr) H', Same H H' → H r = none → H' r = some (.lst (natV (Mc.cls A n s))) → Q (.ref r) H'
/-- lots of spots as tuples -/
def ClsAt (H : Hp) (l : Addr) (cs : List (List Nat)) : Prop := ∃ qs : List Addr, H l = some (.lst (qs.map V.ref)) ∧ Paired (fun q c => H q = some (.tup (natV c))) qs cs
theorem ClsAt.same {H H' : Hp} {l : Addr} {cs : List (List Nat)} (s : Same H H') (h : ClsAt H l cs) : ClsAt H' l cs := by
  obtain ⟨qs, g, p⟩ := h
  refine ⟨qs, s _ _ g, ?_⟩
  clear g
  induction p with
  | nil => exact .nil
  | cons a _ ih => exact .cons (s _ _ a) ih
def sp_classes (K : PySem.W.Frag) (C : Addr) : Sp := fun vs H Q _ => ∃ (b : Addr) (ws : List Str) (z : Str), vs = [.ref b, .str z] ∧ BookAt C H b ws ∧ Watches ws ∧ Lt.Wd 40 z ∧
  ∀ (l : Addr) H', Same H H' → H l = none → ClsAt H' l (Mc.classesTo (Mw.Adj ws z) z.length (z.length + 1)) → Q (.ref l) H'
def sp_is_told (K : PySem.W.Frag) (C : Addr) : Sp := fun vs H Q _ => ∃ (b : Addr) (ws : List Str) (z : Str), vs = [.ref b, .str z] ∧ BookAt C H b ws ∧ Watches ws ∧ Lt.Wd 40 z ∧ ∀ (t : Bool) H', Same H H' → (t = true ↔ Mw.Told ws z) → Q (.bl t) H'
theorem ok_is_told (T : Txt K mg) : FnOk P w K mg base CX0 5 T.f_is_told T.fd_is_told ["book", "word"] (sp_is_told K T.C_Book) := by
  refine T.F_is_told.ok sc_is_told (fun vs H Q E h => ?_) (fun cdv A outer s H vs Q E hr h => ?_)
  · obtain ⟨b, ws, z, rfl, _⟩ := h
    rfl
  · obtain ⟨b, ws, z, rfl, hB, L, hz, k⟩ := h
    refine ⟨_, (pss_cons (ps_expr (pe_call (ok_check_book T) (hr.mono (by decide)) rfl T.g_check_book T.F_check_book.kp T.b_check_book .nil pass0 (pa_cons (pv 0) pa_nil)))
  (pss_cons (ps_expr (pe_call (ok_check_word T) (hr.mono (by decide)) rfl T.g_check_word T.F_check_word.kp T.b_check_word .nil pass0 (pa_cons (pv 1) pa_nil)))
  (pss_one (ps_ret (pe_call (ok_leads T) (hr.mono (by decide)) rfl T.g_leads T.F_leads.kp T.b_leads .nil pass0 (pa_cons (pe_fld (pv 0) rfl) (pa_cons (pv 1) pa_nil))))))), ?_⟩
    have z1 := hz.l1
    have w12 := L.l1
    walk_at "rd"
    refine ⟨b, ws, rfl, hB, ?_⟩
    walk_at "rd"
    refine ⟨z, rfl, hz, fun H1 s1 => ?_⟩
    walk_at "rd"
    obtain ⟨dx, t, hb1, ht1⟩ := hB.same s1
    refine Rd.fld hb1 T.cl_Book T.na_Book_watches rfl ?_
    walk_at "rd"
    exact ⟨t, ws, z, rfl, .inr (.of ht1), watch_sm L, by omega, by omega, fun r H2 s2 e => k r H2 (s1.trans s2) e⟩

end
end W

namespace W
open PySem PySem.Spec PyProof.Rows L2
section
variable {P : Program} {w : World} {K : PySem.W.Frag} {mg : Str → Option Value} {base : Heap}
/-! ### distances, the least of the shortest ways -/
def ov : Option Nat → V
  | none => .non
  | some d => .int (d : Nat)
def Fl (L : List V) (F : Nat → Option Nat) (n : Nat) : Prop := L.length = n + 1 ∧ ∀ i, i ≤ n → L[i]? = some (ov (F i))
theorem Fl.get {L : List V} {F : Nat → Option Nat} {n i : Nat} (h : Fl L F n) (hi : i ≤ n) : atI L (i : Int) = some (ov (F i)) := atI_nat (h.2 i hi)
theorem Fl.set {L : List V} {F : Nat → Option Nat} {n i d : Nat} (h : Fl L F n) (hi : i ≤ n) : Fl (L.set i (.int (d : Nat))) (fun j => if j = i then some d else F j) n := by
  refine ⟨by rw [List.length_set]; exact h.1, fun j hj => ?_⟩
  rw [List.getElem?_set]
  by_cases c : i = j
  · rw [if_pos c, if_pos (by have := h.1; omega)]
    show some (V.int (d : Nat)) = some (ov (if j = i then some d else F j))
    rw [if_pos c.symm]
    rfl
  · rw [if_neg c]
    show L[j]? = some (ov (if j = i then some d else F j))
    rw [if_neg (fun e : j = i => c e.symm)]
    exact h.2 j hj
theorem rep_non (k : Nat) : (List.replicate k [V.non]).flatten = List.replicate k V.non := by
  induction k with
  | zero => rfl
  | succ k ih => rw [List.replicate_succ, List.flatten_cons, ih, List.replicate_succ]; rfl
def sp_distances (K : PySem.W.Frag) : Sp := fun vs H Q _ => ∃ (p : Addr) (n : Nat) (A : Nat → Nat → Prop), vs = [.ref p] ∧ Links K H p n A ∧ n ≤ 1000 ∧ (∀ i j, A i j → j ≤ n) ∧
  ∀ (l : Addr) (L : List V) (F : Nat → Option Nat) H', H' l = some (.lst L) → Fl L F n → (∀ i, i ≤ n → ∀ d, F i = some d ↔ Mz.Dist A n i d) → Same H H' → H l = none → Q (.ref l) H'
theorem ok_distances (T : Txt K mg) : FnOk P w K mg base CX0 1 T.f_distances T.fd_distances ["links"] (sp_distances K) := by
  refine T.F_distances.ok sc_distances (fun vs H Q E h => ?_) (fun cdv A outer s H vs Q E hr h => ?_)
  · obtain ⟨p, n, A, rfl, _⟩ := h
    rfl
  · obtain ⟨p, n, A, rfl, hL, hn, hA, k⟩ := h
    refine ⟨_, (pss_cons (ps_set (i := 1) sc_distances.nd rfl (.inl rfl) (pe_op op_rep (pe_lst (pa_cons pe_non pa_nil)) (pe_callB (id := "len") (r := Rd.nLen K) Rd.c_len (by rfl) T.n_len (by decide +kernel) (pa_cons (pv 0) pa_nil))))
  (pss_cons (ps_asg pe_int (pg_sub (pv 1) (pe_un un_neg pe_int) set_list))
  (pss_cons (ps_set (i := 2) sc_distances.nd rfl (.inl rfl) (pe_lst (pa_cons (pe_op op_sub (pe_callB (id := "len") (r := Rd.nLen K) Rd.c_len (by rfl) T.n_len (by decide +kernel) (pa_cons (pv 0) pa_nil)) pe_int) pa_nil)))
  (pss_cons (ps_while PassesOwn.never (pt_cmpR op_gt (pe_callB (id := "len") (r := Rd.nLen K) Rd.c_len (by rfl) T.n_len (by decide +kernel) (pa_cons (pv 2) pa_nil)) pe_int (nomark _))
  (pss_cons (ps_set (i := 3) sc_distances.nd rfl (.inl rfl) (pe_lst pa_nil))
  (pss_cons (ps_for PassesOwn.never rfl (pi_list (pv 2)) (pg_name (i := 4) sc_distances.nd rfl (.inl rfl))
  (pss_one (ps_for PassesOwn.never rfl (pi_list (pe_ix (r := rIxL K) ix_list (pv 0) (pv 4) (fun _ _ => rfl))) (pg_name (i := 5) sc_distances.nd rfl (.inl rfl))
  (pss_one (ps_if (pt_cmpR op_isN (pe_ix (r := rIxL K) ix_list (pv 1) (pv 5) (fun _ _ => rfl)) pe_non (nomark _))
  (pss_cons (ps_asg (pe_op op_add (pe_ix (r := rIxL K) ix_list (pv 1) (pv 4) (fun _ _ => rfl)) pe_int) (pg_sub (pv 1) (pv 5) set_list))
  (pss_one (ps_expr (pe_bm PySem.F.plainAttrs_list PySem.F.slot_list_append PySem.F.type_list_append mt_append (pv 3) (pa_cons (pv 5) pa_nil)))))
  pss_nil)))))
  (pss_one (ps_set (i := 2) sc_distances.nd rfl (.inl rfl) (pv 3))))))
  (pss_one (ps_ret (pv 1))))))), ?_⟩
    obtain ⟨rs, hp, rl, hr⟩ := hL
    walk_at "rd"
    refine ⟨Nat.le_of_ble_eq_true rfl, Rd.new fun e0 G0 ne0 ge0 s0 => ?_⟩
    walk_at "rd"
    refine Rd.len (.inl (s0.seq hp)) ?_
    rw [List.length_map, rl]
    refine Rd.rep ge0 (by omega) (by omega) (by rw [sizeLine_eq]; show 1 * _ ≤ _; omega) (Rd.new fun f G1 nf gf s1 => ?_)
    rw [show ((n + 1 : Nat) : Int).toNat = n + 1 from rfl, rep_non] at gf
    walk_at "rd"
    refine Rd.setG gf (j := n) (by rw [List.length_replicate]; unfold ixN; rw [if_neg (by decide), if_pos (by omega)]; congr 1; omega) rfl fun G2 g2 off2 => ?_
    have s2 : Same H G2 := fun b o e => by
      rw [off2 b (ne_of_none (s0 _ _ e) nf)]
      exact s1 _ _ (s0 _ _ e)
    have nfH : H f = none := s0.free nf
    walk_at "rd"
    refine Rd.len (.inl (s2.seq hp)) ?_
    rw [List.length_map, rl]
    walk_at "rd"
    refine ⟨Nat.le_of_ble_eq_true rfl, Rd.new fun ra G3 nra gra s3 => ?_⟩
    have fl0 : Fl (List.replicate (n + 1) V.non |>.set n (.int ((0 : Nat) : Int))) (fun j => if j = n then some 0 else none) n := by
      refine Fl.set (F := fun _ => none) ⟨by rw [List.length_replicate], fun i hi => ?_⟩ (Nat.le_refl n)
      rw [List.getElem?_replicate, if_pos (by omega)]
      rfl
    walk_at "rd"
    refine Rd.whl (fun m σ H' => ∃ (k : Nat) (F : Nat → Option Nat) (L : List V) (ra : Addr) (xs : List Int) (o3 o4 o5 : Option V), σ = [some (.ref p), some (.ref f), some (.ref ra), o3, o4, o5] ∧ H' f = some (.lst L) ∧ Fl L F n ∧ H' ra = some (.lst (xs.map V.int)) ∧ Same H H' ∧ ra ≠ f ∧
        (∀ i, i ≤ n → ∀ d, F i = some d ↔ (Mz.Dist A n i d ∧ d ≤ k)) ∧ (∀ x, x ∈ xs ↔ ∃ i : Nat, x = i ∧ Mz.Dist A n i k) ∧ m = if xs = [] then 0 else n + 1 - k)
      ⟨_, 0, _, _, ra, [((n + 1 : Nat) : Int) - 1], none, none, none, rfl, s3 _ _ g2, fl0, gra, s2.trans s3, (ne_of_none g2 nra).symm, fun i hi d => ?_, fun x => ?_, rfl⟩ ?_
    · by_cases c : i = n
      · rw [if_pos c, c]
        constructor
        · intro h
          cases h
          exact ⟨Mz.Dist.zero, Nat.le_refl _⟩
        · rintro ⟨h, _⟩
          rw [h.inj Mz.Dist.zero]
      · rw [if_neg c]
        constructor
        · intro h
          cases h
        · rintro ⟨h, l⟩
          have : d = 0 := by omega
          subst this
          exact absurd (Mz.Dist.zero_iff.mp h) (fun e => c e.symm)
    · rw [List.mem_singleton]
      constructor
      · intro h
        exact ⟨n, by omega, Mz.Dist.zero⟩
      · rintro ⟨i, h, d⟩
        have := Mz.Dist.zero_iff.mp d
        omega
    rintro m _ H1 ⟨k0, F, L, ra, xs, o3, o4, o5, rfl, gf1, fl, gra1, s1', raf, hF, hxs, rfl⟩
    walk_at "rd"
    refine Rd.len (.inl (.of gra1)) ?_
    rw [List.length_map]
    walk_at "rd"
    refine ite2 (fun c => ?_) (fun c => ?_)
    · have xne : xs ≠ [] := fun e => by rw [e] at c; simp at c
      rw [if_neg xne]
      have kn : k0 ≤ n := by
        obtain ⟨x, hx⟩ := List.exists_mem_of_ne_nil _ xne
        obtain ⟨i, _, d⟩ := (hxs x).mp hx
        exact d.le hA (Nat.le_refl n)
      refine Rd.whN ?_
      walk_at "rd"
      refine ⟨Nat.zero_le _, Rd.new fun la G4 nla gla s4 => ?_⟩
      have nla1 : H la = none := s1'.free nla
      have laf : la ≠ f := (ne_of_none gf1 nla).symm
      have rala : ra ≠ la := ne_of_none gra1 nla
      have hpS : ∀ {H'}, Same H H' → SqL K H' p (rs.map V.ref) := fun s => s.seq hp
      walk_at "rd"
      refine Rd.forS ?_
      walk_at "rd"
      refine ⟨⟨_, .of (s4 _ _ gra1)⟩, for_list (K := K) (a := ra) (xs := xs.map V.int) (fun a σ H' => ∃ (F' : Nat → Option Nat) (L' : List V) (ys : List Int) (o4 o5 : Option V), σ = [some (.ref p), some (.ref f), some (.ref ra), some (.ref la), o4, o5] ∧ H' f = some (.lst L') ∧ Fl L' F' n ∧ H' la = some (.lst (ys.map V.int)) ∧ Same H H' ∧ H' ra = some (.lst (xs.map V.int)) ∧
          (∀ i d, i ≤ n → F i = some d → F' i = some d) ∧ (∀ i d, i ≤ n → F' i = some d → F i = some d ∨ (d = k0 + 1 ∧ (i : Int) ∈ ys)) ∧ ys.Nodup ∧ (∀ y ∈ ys, ∃ i : Nat, y = i ∧ i ≤ n ∧ F' i = some (k0 + 1) ∧ Mz.Dist A n i (k0 + 1)) ∧ ∀ s : Nat, (s : Int) ∈ xs.take a → ∀ i, A s i → F' i ≠ none)
        ⟨F, L, [], _, _, rfl, s4 _ _ gf1, fl, gla, s1'.trans s4, s4 _ _ gra1, fun i d _ h => h, fun i d _ h => .inl h, .nil, fun y h => by simp at h, fun s h => by simp at h⟩ (fun a σ H' _ ⟨_, _, _, _, _, _, _, _, _, _, g, _⟩ => .of g) ?_ ?_⟩
      · rintro a x0 _ H2 hx0 ⟨F1, L1, ys, o4, o5, rfl, gf2, fl1, gla2, sm2, gra2, hA1, hA2, nd, hys, cov⟩
        obtain ⟨x, hx, rfl⟩ := Rd.map_get hx0
        obtain ⟨s, rfl, ds⟩ := (hxs x).mp (List.mem_of_getElem? hx)
        have sn : s ≤ n := Mz.Steps.le hA (Nat.le_refl n) ds.1
        have hrow : s < rs.length := by omega
        obtain ⟨ms, m1, _, m2⟩ := hr s _ (List.getElem?_eq_getElem hrow)
        have Fs : F s = some k0 := (hF s sn k0).mpr ⟨ds, Nat.le_refl _⟩
        walk_at "rd"
        refine Rd.forS ?_
        walk_at "rd"
        refine Rd.ixL (hpS sm2) (atI_nat (Rd.map_ref hrow)) ?_
        walk_at "rd"
        refine ⟨⟨_, sm2.seq m1⟩, for_list (K := K) (a := rs[s]) (xs := ms.map V.int) (fun b σ H' => ∃ (F' : Nat → Option Nat) (L' : List V) (ys : List Int) (o5 : Option V), σ = [some (.ref p), some (.ref f), some (.ref ra), some (.ref la), some (.int (s : Int)), o5] ∧ H' f = some (.lst L') ∧ Fl L' F' n ∧ H' la = some (.lst (ys.map V.int)) ∧ Same H H' ∧ H' ra = some (.lst (xs.map V.int)) ∧
            (∀ i d, i ≤ n → F i = some d → F' i = some d) ∧ (∀ i d, i ≤ n → F' i = some d → F i = some d ∨ (d = k0 + 1 ∧ (i : Int) ∈ ys)) ∧ ys.Nodup ∧ (∀ y ∈ ys, ∃ i : Nat, y = i ∧ i ≤ n ∧ F' i = some (k0 + 1) ∧ Mz.Dist A n i (k0 + 1)) ∧ (∀ s : Nat, (s : Int) ∈ xs.take a → ∀ i, A s i → F' i ≠ none) ∧ ∀ i : Nat, (i : Int) ∈ ms.take b → F' i ≠ none)
          ⟨F1, L1, ys, _, rfl, gf2, fl1, gla2, sm2, gra2, hA1, hA2, nd, hys, cov, fun i h => by simp at h⟩ (fun b σ H' _ ⟨_, _, _, _, _, _, _, _, g, _⟩ => g.seq m1) ?_ ?_⟩
        · rintro b y0 _ H3 hy0 ⟨F2, L2, ys2, o5, rfl, gf3, fl2, gla3, sm3, gra3, hB1, hB2, nd2, hys2, cov2, cin⟩
          obtain ⟨y, hy, rfl⟩ := Rd.map_get hy0
          obtain ⟨i, rfl, ai⟩ := (m2 y).mp (List.mem_of_getElem? hy)
          have iN : i ≤ n := hA _ _ ai
          have ylen : ys2.length ≤ n + 1 := Mw.nodup_range nd2 fun v hv => by obtain ⟨j, e, l, _⟩ := hys2 v hv; omega
          walk_at "rd"
          refine Rd.ixL (.of gf3) (fl2.get iN) ?_
          walk_at "rd"
          refine ⟨rfl, ?_⟩
          walk_at "rd"
          refine ite2 (fun q => ?_) (fun q => ?_)
          · have Fi : F2 i = none := by
              cases e : F2 i with
              | none => rfl
              | some d => rw [e] at q; cases q
            have Fi0 : F i = none := by
              cases e : F i with
              | none => rfl
              | some d => have := hB1 i d iN e; rw [Fi] at this; cases this
            have di : Mz.Dist A n i (k0 + 1) := ds.next ai fun j hj d => by
              have := (hF i iN j).mpr ⟨d, hj⟩
              rw [Fi0] at this
              cases this
            walk_at "rd"
            refine Rd.ixL (v := .int ((k0 : Nat) : Int)) (.of gf3) (by rw [fl2.get sn, hB1 s k0 sn Fs]; rfl) ?_
            walk_at "rd"
            refine Rd.setG gf3 (j := i) (by rw [fl2.1]; exact Rd.ixN_of (i := (i : Int)) (by omega) (by omega)) rfl fun G5 g5 off5 => ?_
            have gla5 : G5 la = some (.lst (ys2.map V.int)) := by rw [off5 la laf]; exact gla3
            walk_at "rd"
            refine Rd.tyL (.of gla5) ?_
            walk_at "rd"
            refine Rd.app gla5 (by rw [List.length_map, sizeLine_eq]; omega) fun G6 g6 off6 => ?_
            walk_at "rd"
            have fl3 := fl2.set (d := k0 + 1) iN
            have iy : ¬ (i : Int) ∈ ys2 := fun h => by
              obtain ⟨j, e, _, h2, _⟩ := hys2 _ h
              have : i = j := by omega
              subst this
              rw [Fi] at h2
              cases h2
            refine ⟨_, _, ys2 ++ [(i : Int)], _, rfl, by rw [off6 f laf.symm]; exact g5, fl3, by rw [List.map_append]; exact g6, fun b o e => ?_, by rw [off6 ra rala, off5 ra raf]; exact gra3, fun j d jn h => ?_, fun j d jn h => ?_, ?_, fun v hv => ?_, fun s' hs j aj => ?_, fun j hj => ?_⟩
            · rw [off6 b (ne_of_none e nla1), off5 b (ne_of_none e nfH)]
              exact sm3 b o e
            · by_cases c : j = i
              · subst c
                rw [Fi0] at h
                cases h
              · rw [if_neg c]
                exact hB1 j d jn h
            · by_cases c : j = i
              · rw [if_pos c] at h
                cases h
                exact .inr ⟨rfl, List.mem_append.mpr (.inr (by rw [c]; simp))⟩
              · rw [if_neg c] at h
                exact (hB2 j d jn h).imp id fun ⟨h1, h2⟩ => ⟨h1, List.mem_append.mpr (.inl h2)⟩
            · exact snoc_nodup nd2 iy
            · rcases List.mem_append.mp hv with h | h
              · obtain ⟨j, e1, e2, e3, e4⟩ := hys2 v h
                refine ⟨j, e1, e2, ?_, e4⟩
                split
                · rfl
                · exact e3
              · simp at h
                exact ⟨i, h, iN, by rw [if_pos rfl], di⟩
            · split
              · exact fun h => nomatch h
              · exact cov2 s' hs j aj
            · split
              · exact fun h => nomatch h
              · rename_i c
                rw [Rd.take_snoc hy] at hj
                rcases List.mem_append.mp hj with h | h
                · exact cin j h
                · simp at h
                  exact absurd h (by omega)
          · walk_at "rd"
            refine ⟨F2, L2, ys2, _, rfl, gf3, fl2, gla3, sm3, gra3, hB1, hB2, nd2, hys2, cov2, fun j hj => ?_⟩
            rw [Rd.take_snoc hy] at hj
            rcases List.mem_append.mp hj with h | h
            · exact cin j h
            · simp at h
              have : j = i := by omega
              subst this
              intro e
              exact q (by rw [e]; rfl)
        · rintro _ H3 ⟨F2, L2, ys2, o5, rfl, gf3, fl2, gla3, sm3, gra3, hB1, hB2, nd2, hys2, cov2, cin⟩
          rw [List.length_map, List.take_length] at cin
          walk_at "rd"
          refine ⟨F2, L2, ys2, _, _, rfl, gf3, fl2, gla3, sm3, gra3, hB1, hB2, nd2, hys2, fun s' hs j aj => ?_⟩
          rw [Rd.take_snoc hx] at hs
          rcases List.mem_append.mp hs with h | h
          · exact cov2 s' h j aj
          · simp at h
            have : s' = s := by omega
            subst this
            exact cin j ((m2 _).mpr ⟨j, rfl, aj⟩)
      · rintro _ H2 ⟨F1, L1, ys, o4, o5, rfl, gf2, fl1, gla2, sm2, gra2, hA1, hA2, nd, hys, cov⟩
        rw [List.length_map, List.take_length] at cov
        walk_at "rd"
        have key : ∀ i, i ≤ n → ∀ d, F1 i = some d ↔ (Mz.Dist A n i d ∧ d ≤ k0 + 1) := fun i hi d => by
          constructor
          · intro h
            rcases hA2 i d hi h with h1 | ⟨rfl, h1⟩
            · have := (hF i hi d).mp h1
              exact ⟨this.1, by omega⟩
            · obtain ⟨j, e, _, _, dj⟩ := hys _ h1
              have : i = j := by omega
              subst this
              exact ⟨dj, Nat.le_refl _⟩
          · rintro ⟨h, l⟩
            by_cases c : d ≤ k0
            · exact hA1 i d hi ((hF i hi d).mpr ⟨h, c⟩)
            · have ed : d = k0 + 1 := by omega
              subst ed
              obtain ⟨s, hs, r⟩ := h.pred
              have := cov s ((hxs _).mpr ⟨s, rfl, hs⟩) i r
              cases e : F1 i with
              | none => exact absurd e this
              | some d' =>
                rcases hA2 i d' hi e with h1 | ⟨rfl, _⟩
                · have := ((hF i hi d').mp h1)
                  have e2 := this.1.inj h
                  omega
                · rfl
        have keyY : ∀ x, x ∈ ys ↔ ∃ i : Nat, x = i ∧ Mz.Dist A n i (k0 + 1) := fun x => by
          constructor
          · intro h
            obtain ⟨i, e, _, _, d⟩ := hys x h
            exact ⟨i, e, d⟩
          · rintro ⟨i, rfl, d⟩
            have hi : i ≤ n := Mz.Steps.le hA (Nat.le_refl n) d.1
            rcases hA2 i _ hi ((key i hi _).mpr ⟨d, Nat.le_refl _⟩) with h1 | ⟨_, h1⟩
            · have := ((hF i hi _).mp h1).2
              omega
            · exact h1
        refine ⟨if ys = [] then 0 else n + 1 - (k0 + 1), ?_, k0 + 1, F1, L1, la, ys, _, _, _, rfl, gf2, fl1, gla2, sm2, laf, key, keyY, rfl⟩
        split <;> omega
    · have xe : xs = [] := by
        cases xs with
        | nil => rfl
        | cons _ _ => exfalso; apply c; rw [List.length_cons]; omega
      subst xe
      walk_at "rd"
      refine k f L F H1 gf1 fl (fun i hi d => (hF i hi d).trans ⟨fun h => h.1, fun h => ⟨h, ?_⟩⟩) s1' nfH
      rcases Nat.lt_or_ge k0 d with l | l
      · obtain ⟨y, hy⟩ := h.all k0 (by omega)
        have := (hxs _).mpr ⟨y, rfl, hy⟩
        simp at this
      · exact l

end
end W

namespace W
open PySem PySem.Spec PyProof.Rows L2
section
variable {P : Program} {w : World} {K : PySem.W.Frag} {mg : Str → Option Value} {base : Heap}
/-! ### the least of the shortest zigzags -/
/-- what shortest answers -/
def Zig (H H' : Hp) (ws : List Str) (z : Str) (r : V) : Prop := (r = .non ∧ ¬ Mw.Told ws z) ∨ ∃ (q : Addr) (P : List Nat), r = .ref q ∧ H' q = some (.tup (natV P)) ∧ H q = none ∧ Mz.Gr (Mw.Adj ws z) z.length 0 P
theorem gr_told {A : Nat → Nat → Prop} {n x : Nat} {P : List Nat} (h : Mz.Gr A n x P) : Mw.Star A x n := by
  cases h with
  | stop => exact .refl
  | step hx _ _ _ _ => exact Mz.star_dist.mpr ⟨_, hx⟩
def sp_shortest (K : PySem.W.Frag) : Sp := fun vs H Q _ => ∃ (a : Addr) (ws : List Str) (z : Str), vs = [.ref a, .str z] ∧ Ru.SqR K H a (ws.map V.str) ∧ (∀ W ∈ ws, 1 ≤ W.length ∧ W.length ≤ 1000) ∧ ws.length ≤ 100 ∧ z.length ≤ 1000 ∧ ∀ (r : V) H', Same H H' → Zig H H' ws z r → Q r H'
def sp_zigzag (K : PySem.W.Frag) (C : Addr) : Sp := fun vs H Q _ => ∃ (a : Addr) (ws : List Str) (z : Str), vs = [.ref a, .str z] ∧ BookAt C H a ws ∧ Watches ws ∧ Lt.Wd 40 z ∧ ∀ (r : V) H', Same H H' → Zig H H' ws z r → Q r H'
theorem filt_step {α : Type} {l : List α} {i : Nat} {x : α} {f : α → Bool} (h : l[i]? = some x) : (l.take (i + 1)).filter f = (l.take i).filter f ++ if f x = true then [x] else [] := by
  rw [Rd.take_snoc h, List.filter_append]
  congr 1
  cases e : f x <;> simp [e]
theorem sorted_head {l : List Int} {f : Int → Bool} (hp : l.Pairwise (· ≤ ·)) {x : Int} (hx : x ∈ l) (fx : f x = true) : ∃ w r, l.filter f = w :: r ∧ ∀ v ∈ l, f v = true → w ≤ v := by
  have hm : x ∈ l.filter f := List.mem_filter.mpr ⟨hx, fx⟩
  have hs := hp.sublist (List.filter_sublist (l := l) (p := f))
  cases e : l.filter f with
  | nil => rw [e] at hm; simp at hm
  | cons w r =>
    rw [e] at hs
    refine ⟨w, r, rfl, fun v hv fv => ?_⟩
    have : v ∈ w :: r := by rw [← e]; exact List.mem_filter.mpr ⟨hv, fv⟩
    rcases List.mem_cons.mp this with rfl | h
    · exact Int.le_refl _
    · exact (List.pairwise_cons.mp hs).1 v h
theorem ok_shortest (T : Txt K mg) : FnOk P w K mg base CX0 2 T.f_shortest T.fd_shortest ["watches", "word"] (sp_shortest K) := by
  refine T.F_shortest.ok sc_shortest (fun vs H Q E h => ?_) (fun cdv A outer s H vs Q E hr h => ?_)
  · obtain ⟨a, ws, z, rfl, _⟩ := h
    rfl
  · obtain ⟨a, ws, z, rfl, hS, hw, l1, l2, k⟩ := h
    refine ⟨_, (pss_cons (ps_set (i := 2) sc_shortest.nd rfl (.inl rfl) (pe_call (ok_links_of T) (hr.mono (by decide)) rfl T.g_links_of T.F_links_of.kp T.b_links_of .nil pass0 (pa_cons (pv 0) (pa_cons (pv 1) pa_nil))))
  (pss_cons (ps_set (i := 3) sc_shortest.nd rfl (.inr rfl) (pe_call (ok_distances T) (hr.mono (by decide)) rfl T.g_distances T.F_distances.kp T.b_distances .nil pass0 (pa_cons (pv 2) pa_nil)))
  (pss_cons (ps_if (pt_cmpR op_isN (pe_ix (r := rIxL K) ix_list (pv 3) pe_int (fun _ _ => rfl)) pe_non (nomark _))
  (pss_one (ps_ret pe_non))
  pss_nil)
  (pss_cons (ps_set (i := 4) sc_shortest.nd rfl (.inl rfl) (pe_lst (pa_cons pe_int pa_nil)))
  (pss_cons (ps_while PassesOwn.never (pt_cmpR op_ne (pe_ix (r := rIxL K) ix_list (pv 4) (pe_un un_neg pe_int) (fun _ _ => rfl)) (pe_callB (id := "len") (r := _) Rd.c_lenS (by rfl) T.n_len (by decide +kernel) (pa_cons (pv 1) pa_nil)) (nomark _))
  (pss_cons (ps_set (i := 5) sc_shortest.nd rfl (.inr rfl) (pe_ix (r := rIxL K) ix_list (pv 4) (pe_un un_neg pe_int) (fun _ _ => rfl)))
  (pss_one (ps_expr (pe_bm PySem.F.plainAttrs_list PySem.F.slot_list_append PySem.F.type_list_append mt_append (pv 4) (pa_cons (pe_ix (r := rIxL K) ix_list (pe_lc (own := [("other", 6)]) (g := gName 6)  rfl sc_shortest.nd (pi_list (pe_ix (r := rIxL K) ix_list (pv 2) (pv 5) (fun _ _ => rfl))) (blkOk_by (own := [("other", 6)]) (N := ["watches", "word", "links", "far", "found", "spot", "other"]) (sc := defScope s_shortest) (by decide +kernel)) (fun _ _ _ _ _ => (pg_name (i := 6) sc_shortest.nd rfl (.inl rfl))) (fun _ _ _ _ _ => pts_one (pt_cmpR op_eq (pe_ix (r := rIxL K) ix_list (pv 3) (pv 6) (fun _ _ => rfl)) (pe_op op_sub (pe_ix (r := rIxL K) ix_list (pv 3) (pv 5) (fun _ _ => rfl)) pe_int) (nomark _))) (fun _ _ _ _ _ => (pv 6))) pe_int (fun _ _ => rfl)) pa_nil))))))
  (pss_one (ps_ret (pe_callTy (T := "tuple") (r := Rd.nTupOf K) Rd.c_tupOf (by rfl) T.n_tuple (by decide +kernel) (pa_cons (pv 4) pa_nil))))))))), ?_⟩
    walk_at "rd"
    refine ⟨a, ws, z, rfl, hS, hw, l1, l2, fun p H1 hL s1 _ _ => ?_⟩
    walk_at "rd"
    refine ⟨p, z.length, Mw.Adj ws z, rfl, hL, l2, fun i j h => h.le.2, fun l L F H2 gl fl hF s2 nl => ?_⟩
    have hsy : ∀ x y, Mw.Adj ws z x y → Mw.Adj ws z y x := fun x y h => Mw.Adj.symm x y h
    obtain ⟨rs, hp, rl, hr⟩ := hL.same s2
    have zl : z.length ≤ sizeLine := by rw [sizeLine_eq]; omega
    walk_at "rd"
    refine Rd.ixL (.of gl) (fl.get (i := 0) (Nat.zero_le _)) ?_
    walk_at "rd"
    refine ⟨rfl, ?_⟩
    walk_at "rd"
    refine ite2 (fun c => ?_) (fun c => ?_)
    · walk_at "rd"
      refine k _ _ (s1.trans s2) (.inl ⟨rfl, fun h => ?_⟩)
      obtain ⟨d, hd⟩ := Mz.star_dist.mp h
      have := (hF 0 (Nat.zero_le _) d).mpr (hd.symm hsy)
      rw [this] at c
      cases c
    · obtain ⟨d0, e0⟩ : ∃ d, F 0 = some d := by
        cases e : F 0 with
        | none => rw [e] at c; exact absurd rfl c
        | some d => exact ⟨d, rfl⟩
      have hd0 := (hF 0 (Nat.zero_le _) d0).mp e0
      walk_at "rd"
      refine ⟨Nat.le_of_ble_eq_true rfl, Rd.new fun g G ng gg sG => ?_⟩
      walk_at "rd"
      refine Rd.whl (fun m σ H' => ∃ (pre : List Nat) (cur : Nat) (o5 : Option V), σ = [some (.ref a), some (.str z), some (.ref p), some (.ref l), some (.ref g), o5, none] ∧ H' g = some (.lst (natV (pre ++ [cur]))) ∧ Same H2 H' ∧ cur ≤ z.length ∧ pre.length + m = d0 ∧ Mz.Dist (Mw.Adj ws z) z.length cur m ∧ ∀ P, Mz.Gr (Mw.Adj ws z) z.length cur P → Mz.Gr (Mw.Adj ws z) z.length 0 (pre ++ P))
        ⟨d0, [], 0, none, rfl, gg, sG, Nat.zero_le _, by simp, hd0, fun P h => h⟩ ?_
      rintro m _ H3 ⟨pre, cur, o5, rfl, gg3, s3, cn, pl, dc, gr⟩
      have last : atI (natV (pre ++ [cur])) (-1) = some (.int (cur : Int)) := by
        unfold natV
        rw [List.map_append, List.map_append]
        exact atI_last _ _
      walk_at "rd"
      refine Rd.ixL (.of gg3) last ?_
      walk_at "rd"
      refine Rd.lenStr zl ?_
      walk_at "rd"
      refine ite2 (fun c2 => ?_) (fun c2 => ?_)
      · have ec : cur = z.length := by omega
        subst ec
        walk_at "rd"
        refine Rd.tupOf (.of gg3) (Rd.new fun q G4 nq gq s4 => ?_)
        have s14 := ((s1.trans s2).trans s3).trans s4
        exact k _ _ s14 (.inr ⟨q, _, rfl, gq, ((s1.trans s2).trans s3).free nq, gr _ .stop⟩)
      · refine Rd.whN ?_
        have dn : Mz.Dist (Mw.Adj ws z) z.length z.length 0 := Mz.Dist.zero
        obtain ⟨m', rfl⟩ : ∃ m', m = m' + 1 := by
          cases m with
          | zero => exact absurd (Mz.Dist.zero_iff.mp dc) (fun e => c2 (by omega))
          | succ m' => exact ⟨m', rfl⟩
        have d0n : d0 ≤ z.length := hd0.le (fun i j h => h.le.2) (Nat.le_refl _)
        obtain ⟨y0, hy0, ry0⟩ := dc.pred
        have hrow : cur < rs.length := by omega
        obtain ⟨ms, m1, mp, m2⟩ := hr cur _ (List.getElem?_eq_getElem hrow)
        have Fc : F cur = some (m' + 1) := (hF cur cn _).mpr dc
        walk_at "rd"
        refine Rd.ixL (.of gg3) last ?_
        walk_at "rd"
        refine Rd.tyL (.of gg3) ?_
        walk_at "rd"
        refine Rd.ixL (s3.seq hp) (atI_nat (Rd.map_ref hrow)) ?_
        walk_at "rd"
        refine ⟨⟨_, s3.seq m1⟩, Rd.lcS walk_list (fun _ s => s.seq (s3.seq m1)) (fun D i acc Hc => acc = ((ms.take i).filter fun x => decide (F x.toNat = some m')).map V.int) (fun _ _ _ _ _ => rfl) ?_ ?_⟩
        · rintro D i x G1 _ acc nD hi hD sm rfl ⟨rfl, hx⟩
          obtain ⟨y, hy, rfl⟩ := Rd.map_get hx
          obtain ⟨j, rfl, aj⟩ := (m2 y).mp (List.mem_of_getElem? hy)
          have jn := aj.le.2
          have lim : ((((ms.take i).filter fun x => decide (F x.toNat = some m')).map V.int)).length < sizeLine := by
            rw [List.length_map, sizeLine_eq]
            have h1 := List.length_filter_le (fun x : Int => decide (F x.toNat = some m')) (ms.take i)
            rw [List.length_take] at h1
            have h2 := mp.2
            omega
          obtain ⟨e, hde⟩ : ∃ e, F j = some e := by
            obtain ⟨e, _, he⟩ := Mz.Steps.dist (A := Mw.Adj ws z) (x := z.length) (y := j) (k := m' + 1 + 1) ⟨cur, dc.1, aj⟩
            exact ⟨e, (hF j jn e).mpr he⟩
          have gl1 := sm _ _ (s3 _ _ gl)
          walk_at "rd"
          refine ⟨rfl, ?_⟩
          walk_at "rd"
          refine Rd.ixL (v := .int ((e : Nat) : Int)) (.of gl1) (by rw [fl.get jn, hde]; rfl) ?_
          walk_at "rd"
          refine Rd.ixL (v := .int ((m' + 1 : Nat) : Int)) (.of gl1) (by rw [fl.get cn, Fc]; rfl) ?_
          walk_at "rd"
          have st := filt_step (f := fun x : Int => decide (F x.toNat = some m')) hy
          rw [Int.toNat_natCast, hde] at st
          refine ite2 (fun q => ?_) (fun q => ?_)
          · have ee : e = m' := by omega
            subst ee
            rw [decide_eq_true rfl, if_pos rfl] at st
            walk_at "rd"
            refine Rd.lcPush hD nD sm lim fun G2 g2 off2 => ?_
            rw [st, List.map_append]
            rfl
          · have ee : ¬ some e = some m' := fun h => q (by cases h; omega)
            rw [decide_eq_false ee, if_neg Bool.false_ne_true, List.append_nil] at st
            walk_at "rd"
            refine ⟨_, hD, sm, ?_⟩
            dsimp only
            rw [st]
        · rintro D acc G1 nD hD sm rfl
          rw [List.length_map, List.take_length] at hD
          have yn : y0 ≤ z.length := Mz.Steps.le (fun i j h => h.le.2) (Nat.le_refl _) hy0.1
          obtain ⟨w, r, ef, hmin⟩ := sorted_head (f := fun x : Int => decide (F x.toNat = some m')) mp.1 ((m2 _).mpr ⟨y0, rfl, hsy _ _ ry0⟩) (by rw [Int.toNat_natCast]; exact decide_eq_true ((hF y0 yn _).mpr hy0))
          have wm : w ∈ ms.filter fun x : Int => decide (F x.toNat = some m') := by rw [ef]; exact List.mem_cons_self
          obtain ⟨wm1, wm2⟩ := List.mem_filter.mp wm
          obtain ⟨wi, rfl, aw⟩ := (m2 w).mp wm1
          rw [Int.toNat_natCast] at wm2
          have wn := aw.le.2
          have dw := (hF wi wn _).mp (of_decide_eq_true wm2)
          rw [ef] at hD
          walk_at "rd"
          refine Rd.ixL (.of hD) (atI_nat (j := 0) rfl) ?_
          walk_at "rd"
          refine Rd.app (sm _ _ gg3) (by unfold natV; rw [List.length_map, List.length_map, List.length_append, sizeLine_eq]; show _ + 1 < _; omega) fun G5 g5 off5 => ?_
          walk_at "rd"
          refine ⟨m', Nat.lt_succ_self _, pre ++ [cur], wi, _, rfl, ?_, fun b o e => ?_, wn, by rw [List.length_append]; show _ + 1 + _ = _; omega, dw, fun P h => ?_⟩
          · rw [g5]
            unfold natV
            simp
          · have bg : b ≠ g := ne_of_none e ng
            rw [off5 b bg]
            exact sm _ _ (s3 _ _ e)
          · rw [List.append_assoc]
            refine gr _ (.step (dc.symm hsy) aw (dw.symm hsy) (fun v av dv => ?_) h)
            have vn := av.le.2
            have := hmin (v : Int) ((m2 _).mpr ⟨v, rfl, av⟩) (by rw [Int.toNat_natCast]; exact decide_eq_true ((hF v vn _).mpr (dv.symm hsy)))
            omega
theorem ok_zigzag (T : Txt K mg) : FnOk P w K mg base CX0 5 T.f_zigzag T.fd_zigzag ["book", "word"] (sp_zigzag K T.C_Book) := by
  refine T.F_zigzag.ok sc_zigzag (fun vs H Q E h => ?_) (fun cdv A outer s H vs Q E hr h => ?_)
  · obtain ⟨a, ws, z, rfl, _⟩ := h
    rfl
  · obtain ⟨a, ws, z, rfl, hB, L, hz, k⟩ := h
    refine ⟨_, (pss_cons (ps_expr (pe_call (ok_check_book T) (hr.mono (by decide)) rfl T.g_check_book T.F_check_book.kp T.b_check_book .nil pass0 (pa_cons (pv 0) pa_nil)))
  (pss_cons (ps_expr (pe_call (ok_check_word T) (hr.mono (by decide)) rfl T.g_check_word T.F_check_word.kp T.b_check_word .nil pass0 (pa_cons (pv 1) pa_nil)))
  (pss_one (ps_ret (pe_call (ok_shortest T) (hr.mono (by decide)) rfl T.g_shortest T.F_shortest.kp T.b_shortest .nil pass0 (pa_cons (pe_fld (pv 0) rfl) (pa_cons (pv 1) pa_nil))))))), ?_⟩
    walk_at "rd"
    refine ⟨a, ws, rfl, hB, ?_⟩
    walk_at "rd"
    refine ⟨z, rfl, hz, fun H1 s1 => ?_⟩
    walk_at "rd"
    obtain ⟨dx, t, hb1, ht1⟩ := hB.same s1
    refine Rd.fld hb1 T.cl_Book T.na_Book_watches rfl ?_
    walk_at "rd"
    have l1 := L.l1
    have z1 := hz.l1
    refine ⟨t, ws, z, rfl, .inr (.of ht1), fun W m => ⟨(L.ok W m).l0, by have := (L.ok W m).l1; omega⟩, by omega, by omega, fun r H2 s2 hz => k r H2 (s1.trans s2) ?_⟩
    exact hz.imp id fun ⟨q, P, h1, h2, h3, h4⟩ => ⟨q, P, h1, h2, s1.free h3, h4⟩

end
end W

namespace W
open PySem PySem.Spec PyProof.Rows L2
section
variable {P : Program} {w : World} {K : PySem.W.Frag} {mg : Str → Option Value} {base : Heap}
/-! ### a book tells a book -/
def sp_tells_book (K : PySem.W.Frag) (C : Addr) : Sp := fun vs H Q _ => ∃ (a b : Addr) (ws zs : List Str), vs = [.ref a, .ref b] ∧ BookAt C H a ws ∧ BookAt C H b zs ∧ Watches ws ∧ Watches zs ∧ ∀ (b : Bool) H', Same H H' → (b = true ↔ ∀ z ∈ zs, Mw.Told ws z) → Q (.bl b) H'
theorem Watches.small {ws : List Str} (h : Watches ws) : ∀ W ∈ ws, 1 ≤ W.length ∧ W.length ≤ 1000 := fun W m => ⟨(h.ok W m).l0, by have := (h.ok W m).l1; omega⟩
end
end W

namespace W
open PySem PySem.Spec PyProof.Rows L2
section
variable {P : Program} {w : World} {K : PySem.W.Frag} {mg : Str → Option Value} {base : Heap}
/-! ### needless watches -/
/-- the other watches -/
def others (ws : List Str) (W : Str) : List Str := ws.filter fun V => !decide (V = W)
open Classical in
/-- the watches that the others tell, in their order -/
noncomputable def dues (ws : List Str) (zs : List Str) : List Str := zs.filter fun W => decide (Mw.Told (others ws W) W)
open Classical in
theorem dues_step {ws zs : List Str} {i : Nat} {W : Str} {b : Bool} (h : zs[i]? = some W) (e : b = true ↔ Mw.Told (others ws W) W) : dues ws (zs.take (i + 1)) = dues ws (zs.take i) ++ if b = true then [W] else [] := by
  unfold dues
  rw [filt_stepB h]
  cases b with
  | true => rw [if_pos rfl, if_pos (decide_eq_true (e.mp rfl))]
  | false => rw [if_neg Bool.false_ne_true, if_neg (fun q => Bool.false_ne_true (e.mpr (of_decide_eq_true q)))]
theorem dues_sub (ws zs : List Str) : ∀ W ∈ dues ws zs, W ∈ zs := fun W h => (List.mem_filter.mp h).1
theorem dues_le (ws zs : List Str) : (dues ws zs).length ≤ zs.length := List.length_filter_le _ _
open Classical in
theorem mem_dues {ws zs : List Str} {W : Str} (h : W ∈ zs) : W ∈ dues ws zs ↔ Mw.Told (others ws W) W := by
  unfold dues
  rw [List.mem_filter, decide_eq_true_iff]
  exact ⟨fun q => q.2, fun q => ⟨h, q⟩⟩
def sp_needless (K : PySem.W.Frag) (C : Addr) : Sp := fun vs H Q _ => ∃ (b : Addr) (ws : List Str), vs = [.ref b] ∧ BookAt C H b ws ∧ Watches ws ∧ ∀ l H', Same H H' → H l = none → H' l = some (.lst ((dues ws ws).map V.str)) → Q (.ref l) H'
theorem ok_needless (T : Txt K mg) : FnOk P w K mg base CX0 5 T.f_needless T.fd_needless ["book"] (sp_needless K T.C_Book) := by
  refine T.F_needless.ok sc_needless (fun vs H Q E h => ?_) (fun cdv A outer s H vs Q E hr h => ?_)
  · obtain ⟨b, ws, rfl, _⟩ := h
    rfl
  · obtain ⟨b, ws, rfl, hB, L, k⟩ := h
    refine ⟨_, (pss_cons (ps_expr (pe_call (ok_check_book T) (hr.mono (by decide)) rfl T.g_check_book T.F_check_book.kp T.b_check_book .nil pass0 (pa_cons (pv 0) pa_nil)))
  (pss_cons (ps_set (i := 1) sc_needless.nd rfl (.inl rfl) (pe_lst pa_nil))
  (pss_cons (ps_for PassesOwn.never rfl (pi_tup (pe_fld (pv 0) rfl)) (pg_name (i := 2) sc_needless.nd rfl (.inr rfl))
  (pss_one (ps_if (pt_val (pe_call (ok_leads T) (hr.mono (by decide)) rfl T.g_leads T.F_leads.kp T.b_leads .nil pass0 (pa_cons (pe_lc (own := [("other", 3)]) (g := gName 3)  rfl sc_needless.nd (pi_tup (pe_fld (pv 0) rfl)) (blkOk_by (own := [("other", 3)]) (N := ["book", "found", "watch", "other"]) (sc := defScope s_needless) (by decide +kernel)) (fun _ _ _ _ _ => (pg_name (i := 3) sc_needless.nd rfl (.inl rfl))) (fun _ _ _ _ _ => pts_one (pt_cmpR op_ne (pv 3) (pv 2) (nomark _))) (fun _ _ _ _ _ => (pv 3))) (pa_cons (pv 2) pa_nil))))
  (pss_one (ps_expr (pe_bm PySem.F.plainAttrs_list PySem.F.slot_list_append PySem.F.type_list_append mt_append (pv 1) (pa_cons (pv 2) pa_nil))))
  pss_nil)))
  (pss_one (ps_ret (pv 1)))))), ?_⟩
    have l1 := L.l1
    obtain ⟨dx, t, hb, ht⟩ := id hB
    walk_at "rd"
    refine ⟨b, ws, rfl, hB, ?_⟩
    walk_at "rd"
    refine ⟨Nat.zero_le _, Rd.new fun f G nf gf sG => ?_⟩
    walk_at "rd"
    refine Rd.forS ?_
    walk_at "rd"
    refine Rd.fld (sG _ _ hb) T.cl_Book T.na_Book_watches rfl ?_
    walk_at "rd"
    refine ⟨⟨_, .of (sG _ _ ht)⟩, for_tup (K := K) (a := t) (xs := ws.map V.str) (fun i σ H' => ∃ o : Option V, σ = [some (.ref b), some (.ref f), o, none] ∧ Same H H' ∧ H' f = some (.lst ((dues ws (ws.take i)).map V.str)))
      ⟨_, rfl, sG, gf⟩ (fun i σ H' _ ⟨_, _, s, _⟩ => .of (s _ _ ht)) ?_ ?_⟩
    · rintro i x _ H1 hx ⟨o, rfl, s1, hf⟩
      obtain ⟨W, hW, rfl⟩ := Rd.map_strG hx
      have WL := L.ok W (List.mem_of_getElem? hW)
      have wl := WL.l1
      walk_at "rd"
      refine Rd.fld (s1 _ _ hb) T.cl_Book T.na_Book_watches rfl ?_
      walk_at "rd"
      refine ⟨⟨_, .of (s1 _ _ ht)⟩, Rd.lcS walk_tup (fun _ s => .of (s _ _ (s1 _ _ ht))) (fun D i acc Hc => acc = ((ws.take i).filter fun V => !decide (V = W)).map V.str) (fun _ _ _ _ _ => rfl) ?_ ?_⟩
      · rintro D i x G1 _ acc nD hi hD sm rfl ⟨rfl, hx⟩
        obtain ⟨y, hy, rfl⟩ := Rd.map_strG hx
        walk_at "rd"
        refine ⟨rfl, ?_⟩
        walk_at "rd"
        refine ite2 (fun q => ?_) (fun q => ?_)
        · walk_at "rd"
          refine ⟨_, hD, sm, ?_⟩
          dsimp only
          rw [filt_stepB hy, decide_eq_true q]
          simp
        · walk_at "rd"
          refine Rd.lcPush hD nD sm ?_ fun G2 g2 off2 => ?_
          · rw [List.length_map, sizeLine_eq]
            have := List.length_filter_le (fun V => !decide (V = W)) (ws.take i)
            rw [List.length_take] at this
            omega
          · skip
            rw [filt_stepB hy, decide_eq_false q, List.map_append]
            rfl
      · rintro D acc G1 nD hD sm rfl
        rw [List.length_map, List.take_length] at hD
        walk_at "rd"
        have LF := L.filter fun V => !decide (V = W)
        have lf := LF.l1
        refine ⟨D, others ws W, W, rfl, .inl (.of hD), LF.small, by show (ws.filter _).length ≤ _; omega, by omega, fun b1 H2 s2 e => ?_⟩
        walk_at "rd"
        have step := dues_step (ws := ws) hW e
        cases b1 with
        | true =>
          walk_at "rd"
          have hf2 := s2 _ _ (sm _ _ hf)
          refine Rd.tyL (.of hf2) ?_
          walk_at "rd"
          refine Rd.app hf2 ?_ fun G3 g3 off3 => ?_
          · have := dues_le ws (ws.take i)
            rw [List.length_take] at this
            rw [List.length_map, sizeLine_eq]
            omega
          · walk_at "rd"
            refine ⟨_, rfl, fun c o e => ?_, ?_⟩
            · rw [off3 c (ne_of_none e nf)]
              exact s2 _ _ (sm _ _ (s1 _ _ e))
            · rw [step, List.map_append]
              exact g3
        | false =>
          walk_at "rd"
          refine ⟨_, rfl, (s1.trans sm).trans s2, ?_⟩
          rw [step]
          show H2 f = some (.lst ((dues ws (ws.take i) ++ []).map V.str))
          rw [List.append_nil]
          exact s2 _ _ (sm _ _ hf)
    · rintro _ H1 ⟨o, rfl, s1, hf⟩
      rw [List.length_map, List.take_length] at hf
      walk_at "rd"
      exact k f H1 s1 nf hf

end
end W

namespace W
open PySem PySem.Spec PyProof.Rows L2
section
variable {P : Program} {w : World} {K : PySem.W.Frag} {mg : Str → Option Value} {base : Heap}
/-! ### all the words that a book tells -/
def wordsOf (L : Str) : Nat → List Str
  | 0 => [""]
  | k + 1 => (wordsOf L k).flatMap fun w => (Re.Signs L).map fun c => w ++ c
def allOf (L : Str) : Nat → List Str
  | 0 => []
  | k + 1 => allOf L k ++ wordsOf L (k + 1)
open Classical in
noncomputable def toldIn (ws zs : List Str) : List Str := zs.filter fun z => decide (Mw.Told ws z)
theorem signs_len (L : Str) : (Re.Signs L).length = L.length := by
  unfold Re.Signs
  rw [List.length_map, Array.length_toList]
  rfl
theorem signs_one {L : Str} : ∀ c ∈ Re.Signs L, c.length = 1 := fun c m => by
  obtain ⟨d, _, rfl⟩ := List.mem_map.mp m
  rfl
theorem signs_nodup {L : Str} (nd : L.cps.toList.Nodup) : (Re.Signs L).Nodup := by
  unfold Re.Signs
  refine List.Pairwise.map _ (fun a b h e => h ?_) nd
  have : (#[a] : Array Nat) = #[b] := congrArg Str.cps e
  simpa using this
theorem wordsOf_len {L : Str} : ∀ {k : Nat}, ∀ z ∈ wordsOf L k, z.length = k
  | 0, z, m => by
    rw [List.mem_singleton.mp m]
    rfl
  | k + 1, z, m => by
    obtain ⟨w, hw, m⟩ := List.mem_flatMap.mp m
    obtain ⟨c, hc, rfl⟩ := List.mem_map.mp m
    rw [Lt.len_app, wordsOf_len w hw, signs_one c hc]
theorem flat_le {L : Str} (h : L.length ≤ 3) : ∀ ws : List Str, (ws.flatMap fun w => (Re.Signs L).map fun c => w ++ c).length ≤ ws.length * 3
  | [] => Nat.le_refl _
  | w :: ws => by
    have := flat_le h ws
    rw [List.flatMap_cons, List.length_append, List.length_map, signs_len, List.length_cons]
    omega
theorem told_step {ws zs : List Str} {i : Nat} {W : Str} (h : zs[i]? = some W) : toldIn ws (zs.take (i + 1)) = toldIn ws (zs.take i) ++ toldIn ws [W] := by
  unfold toldIn
  rw [Rd.take_snoc h, List.filter_append]
theorem told_yes {ws : List Str} {W : Str} (h : Mw.Told ws W) : toldIn ws [W] = [W] := by
  simp [toldIn, h]
theorem told_no {ws : List Str} {W : Str} (h : ¬ Mw.Told ws W) : toldIn ws [W] = [] := by
  simp [toldIn, h]
theorem told_few (ws zs : List Str) : (toldIn ws zs).length ≤ zs.length := List.length_filter_le ..
theorem wordsOf_count {L : Str} (h : L.length ≤ 3) : ∀ k : Nat, (wordsOf L k).length ≤ 3 ^ k
  | 0 => Nat.le_refl _
  | k + 1 => by
    have ih := wordsOf_count h k
    have e : ∀ ws : List Str, (ws.flatMap fun w => (Re.Signs L).map fun c => w ++ c).length ≤ ws.length * 3 := by
      intro ws
      induction ws with
      | nil => exact Nat.le_refl _
      | cons w ws ih =>
        rw [List.flatMap_cons, List.length_append, List.length_map, signs_len, List.length_cons]
        omega
    have := e (wordsOf L k)
    show ((wordsOf L k).flatMap _).length ≤ 3 ^ k * 3
    omega
theorem allOf_count {L : Str} (h : L.length ≤ 3) : ∀ k : Nat, k ≤ 6 → (allOf L k).length ≤ k * 729
  | 0, _ => Nat.le_refl _
  | k + 1, hk => by
    have ih := allOf_count h k (by omega)
    have h1 := wordsOf_count h (k + 1)
    have h2 : 3 ^ (k + 1) ≤ 3 ^ 6 := Nat.pow_le_pow_right (by decide) hk
    show (allOf L k ++ wordsOf L (k + 1)).length ≤ _
    rw [List.length_append]
    omega
theorem allOf_len {L : Str} : ∀ {k : Nat}, ∀ z ∈ allOf L k, z.length ≤ k
  | 0, z, m => by cases m
  | k + 1, z, m => by
    rcases List.mem_append.mp m with m | m
    · have := allOf_len z m
      omega
    · exact Nat.le_of_eq (wordsOf_len z m)
def sp_told_words (K : PySem.W.Frag) (C : Addr) : Sp := fun vs H Q _ => ∃ (b : Addr) (L : Str) (m : Nat) (ws : List Str), vs = [.ref b, .str L, .int (m : Nat)] ∧ BookAt C H b ws ∧ Watches ws ∧ Lt.Let L ∧ 1 ≤ L.length ∧ L.length ≤ 3 ∧ L.cps.toList.Nodup ∧ 1 ≤ m ∧ m ≤ 6 ∧
  ∀ (l : Addr) H', Same H H' → H l = none → H' l = some (.lst ((inOrder (toldIn ws (allOf L m))).map V.str)) → Q (.ref l) H'
theorem ok_told_words (T : Txt K mg) : FnOk P w K mg base CX0 5 T.f_told_words T.fd_told_words ["book", "letters", "most"] (sp_told_words K T.C_Book) := by
  refine T.F_told_words.ok sc_told_words (fun vs H Q E h => ?_) (fun cdv A outer s H vs Q E hr h => ?_)
  · obtain ⟨b, L, m, ws, rfl, _⟩ := h
    rfl
  · obtain ⟨b, L, m, ws, rfl, hB, Wt, hL, L0, L1, nd, m0, m1, k⟩ := h
    refine ⟨_, (pss_cons (ps_expr (pe_call (ok_check_book T) (hr.mono (by decide)) rfl T.g_check_book T.F_check_book.kp T.b_check_book .nil pass0 (pa_cons (pv 0) pa_nil)))
  (pss_cons (ps_if (PW.pt (pw_or (pt_not (pt_val (pe_call (ok_is_letters T) (hr.mono (by decide)) rfl T.g_is_letters T.F_is_letters.kp T.b_is_letters .nil pass0 (pa_cons (pv 1) pa_nil)))) (pw_or (pt_not (pt_chain op_le op_le pe_int (pe_callB (id := "len") (r := _) Rd.c_lenS (by rfl) T.n_len (by decide +kernel) (pa_cons (pv 1) pa_nil)) (pe_glob (v := .int 3) rfl T.m_MOST_LETTERS ⟨_, rfl⟩))) (pw_or1 (pt_cmpR op_ne (Re.pe_lenSet rfl (by rfl) T.n_len (by rfl) T.n_set (pe_callTy (T := "list") (r := Re.rListStr) (Re.cr_listStr rfl) (by rfl) T.n_list (by decide +kernel) (pa_cons (pv 1) pa_nil))) (pe_callB (id := "len") (r := _) Rd.c_lenS (by rfl) T.n_len (by decide +kernel) (pa_cons (pv 1) pa_nil)) (nomark _))))))
  (pss_one ps_never)
  pss_nil)
  (pss_cons (ps_if (PW.pt (pw_or (pt_not (pt_val (pe_call (ok_is_integer T) (hr.mono (by decide)) rfl T.g_is_integer T.F_is_integer.kp T.b_is_integer .nil pass0 (pa_cons (pv 2) pa_nil)))) (pw_or1 (pt_not (pt_chain op_le op_le pe_int (pv 2) (pe_glob (v := .int 6) rfl T.m_MOST_SIZE ⟨_, rfl⟩))))))
  (pss_one ps_never)
  pss_nil)
  (pss_cons (ps_set (i := 3) sc_told_words.nd rfl (.inl rfl) (pe_lst pa_nil))
  (pss_cons (ps_set (i := 4) sc_told_words.nd rfl (.inl rfl) (pe_lst (pa_cons pe_str pa_nil)))
  (pss_cons (ps_for PassesOwn.never rfl (pi_range1 rfl T.n_range (pa_cons (pv 2) pa_nil)) (pg_name (i := 5) sc_told_words.nd rfl (.inl rfl))
  (pss_cons (ps_setLc2 (i := 4) (own := [("word", 6), ("letter", 7)]) (vs1 := [7]) (g := gName 6) (g1 := gName 7) (tt := tYes) (tt1 := tYes) rfl sc_told_words.nd rfl rfl (sw_true rfl rfl rfl (by decide +kernel)) (pi_list (pv 4)) (blkOk_by (own := [("word", 6), ("letter", 7)]) (N := ["book", "letters", "most", "found", "words", "size", "word", "letter"]) (sc := defScope s_told_words) (by decide +kernel)) (by decide) (fun _ _ _ _ _ => (pg_name (i := 6) sc_told_words.nd rfl (.inl rfl))) (fun _ _ _ _ _ => pts_nil) (fun _ _ _ _ _ => (pi_str (pv 1))) (fun _ _ _ _ _ => (pg_name (i := 7) sc_told_words.nd rfl (by first | exact .inl rfl | exact .inr rfl))) (fun _ _ _ _ _ => pts_nil) (fun _ _ _ _ _ => (pe_op Rd.o_addS (pv 6) (pv 7))))
  (pss_one (ps_expr (pe_bm PySem.F.plainAttrs_list PySem.F.slot_list_extend PySem.F.type_list_extend mt_extend (pv 3) (pa_cons (pe_lc (own := [("word", 6)]) (g := gName 6)  rfl sc_told_words.nd (pi_list (pv 4)) (blkOk_by (own := [("word", 6)]) (N := ["book", "letters", "most", "found", "words", "size", "word", "letter"]) (sc := defScope s_told_words) (by decide +kernel)) (fun _ _ _ _ _ => (pg_name (i := 6) sc_told_words.nd rfl (.inl rfl))) (fun _ _ _ _ _ => pts_one (pt_val (pe_call (ok_leads T) (hr.mono (by decide)) rfl T.g_leads T.F_leads.kp T.b_leads .nil pass0 (pa_cons (pe_fld (pv 0) rfl : PE _ _ (tFld K _ _)) (pa_cons (pv 6) pa_nil))))) (fun _ _ _ _ _ => (pv 6))) pa_nil))))))
  (pss_one (ps_ret (pe_call (ok_in_order T) (hr.mono (by decide)) rfl T.g_in_order T.F_in_order.kp T.b_in_order .nil pass0 (pa_cons (pv 3) pa_nil)))))))))), ?_⟩
    have zl : L.length ≤ sizeLine := by rw [sizeLine_eq]; omega
    walk_at "rd"
    refine ⟨b, ws, rfl, hB, ?_⟩
    walk_at "go"
    refine ⟨L, rfl, hL, by omega, fun H1 s1 => ?_⟩
    walk_at "go"
    refine Rd.yes (by omega) ?_
    walk_at "go"
    refine Rd.yes (by omega) ?_
    walk_at "go"
    refine Re.lenSet ?_
    walk_at "go"
    refine Re.listStr zl (Rd.new fun q G nq gq sq => ?_)
    refine ⟨q, _, rfl, .of gq, signs_nodup nd, by rw [signs_len]; omega, ?_⟩
    walk_at "go"
    refine Rd.yes (by rw [signs_len]) ?_
    walk_at "go"
    refine ⟨_, rfl, ?_⟩
    walk_at "go"
    refine Rd.yes (by omega) ?_
    walk_at "go"
    refine Rd.yes (by omega) ?_
    walk_at "go"
    refine ⟨Nat.zero_le _, Rd.new fun f G1 nf gf sf => ?_⟩
    walk_at "go"
    refine ⟨Nat.le_of_ble_eq_true rfl, Rd.new fun v G2 nv gv sv => ?_⟩
    have nf0 : H f = none := (s1.trans sq).free nf
    have fv : f ≠ v := ne_of_none gf nv
    have s02 : Same H G2 := ((s1.trans sq).trans sf).trans sv
    have gf2 := sv _ _ gf
    clear s1 sq sf sv gf nf gq nq
    walk_at "go"
    refine Rd.forS ?_
    walk_at "go"
    refine ⟨by omega, by omega, ?_⟩
    obtain ⟨dx, t, hb, ht⟩ := id hB
    have wl := Wt.l1
    refine for_range (lo := 0) (n := ((m : Nat) : Int).toNat) (fun i σ H' => ∃ (wa : Addr) (o5 o6 o7 : Option V), σ = [some (.ref b), some (.str L), some (.int (m : Nat)), some (.ref f), some (.ref wa), o5, o6, o7] ∧ Same H H' ∧ H' f = some (.lst ((toldIn ws (allOf L i)).map V.str)) ∧ H' wa = some (.lst ((wordsOf L i).map V.str)) ∧ f ≠ wa)
      ⟨v, _, _, _, rfl, s02, gf2, gv, fv⟩ ?_ ?_
    · clear gf2 gv fv s02
      rintro i _ H2 hi ⟨wa, o5, o6, o7, rfl, s2, gf, gw, ne⟩
      walk_at "go"
      refine Re.lc2 ?_
      walk_at "go"
      refine ⟨⟨_, .of gw⟩, Re.lc2S walk_list (fun _ s => .of (s _ _ gw)) (fun D j acc Hc => acc = (((wordsOf L i).take j).flatMap fun w => (Re.Signs L).map fun c => w ++ c).map V.str) (fun _ _ _ _ _ => rfl) ?_ ?_⟩
      · rintro D j x H3 _ acc nD hj hD sm rfl ⟨rfl, hx⟩
        obtain ⟨w, hw, rfl⟩ := Rd.map_strG hx
        have wlen := wordsOf_len w (List.mem_of_getElem? hw)
        walk_at "go"
        refine ⟨rfl, Rd.tyes ?_⟩
        walk_at "go"
        have c3 : 3 ^ i ≤ 3 ^ 6 := Nat.pow_le_pow_right (by decide) (by omega)
        have c1 := wordsOf_count L1 i
        have c2 := flat_le L1 ((wordsOf L i).take j)
        rw [List.length_take] at c2
        refine Re.innerS walk_str (fun t acc _ => acc = ((((wordsOf L i).take j).flatMap fun w => (Re.Signs L).map fun c => w ++ c) ++ ((Re.Signs L).take t).map fun c => w ++ c).map V.str) ⟨_, hD, sm, by simp⟩ (fun _ _ => trivial) ?_ ?_
        · rintro t x H4 _ acc ht hD4 sm4 rfl ⟨rfl, c, hc, rfl⟩
          have hs : (Re.Signs L)[t]? = some ⟨#[c]⟩ := by
            unfold Re.Signs
            rw [List.getElem?_map, Array.getElem?_toList, hc]
            rfl
          have tl : t < L.length := ht
          walk_at "go"
          refine ⟨rfl, Rd.tyes ?_⟩
          walk_at "go"
          have one : (⟨#[c]⟩ : Str).length = 1 := rfl
          refine Rd.addS (by rw [sizeLine_eq]; omega) ?_
          refine Rd.lcPush hD4 nD sm4 ?_ fun G g off => ?_
          · rw [List.length_map, List.length_append, List.length_map, List.length_take, sizeLine_eq]
            omega
          · rw [Rd.take_snoc hs]
            simp
        · rintro acc H4 hD4 sm4 rfl
          have full : (Re.Signs L).take L.cps.size = Re.Signs L := List.take_of_length_le (by rw [signs_len]; exact Nat.le_refl _)
          show _ = List.map V.str (((wordsOf L i).take (j + 1)).flatMap _)
          rw [full, Rd.take_snoc hw, List.flatMap_append]
          simp
      · rintro D acc H3 nD hD sm rfl
        rw [List.length_map, List.take_length] at hD
        replace hD : H3 D = some (.lst ((wordsOf L (i + 1)).map V.str)) := hD
        have c3 : 3 ^ (i + 1) ≤ 3 ^ 6 := Nat.pow_le_pow_right (by decide) (by omega)
        have c1 := wordsOf_count L1 (i + 1)
        have c0 := allOf_count L1 i (by omega)
        have s3 := s2.trans sm
        have gf3 := sm _ _ gf
        have nDf : f ≠ D := ne_of_none gf nD
        clear s2 sm gf gw ne nD
        walk_at "go"
        refine ⟨⟨_, .of hD⟩, Rd.lcS walk_list (fun _ s => .of (s _ _ hD)) (fun D2 j acc Hc => acc = (toldIn ws ((wordsOf L (i + 1)).take j)).map V.str) (fun _ _ _ _ _ => rfl) ?_ ?_⟩
        · rintro D2 j x H4 _ acc nD2 hj hD2 sm2 rfl ⟨rfl, hx⟩
          obtain ⟨w, hw, rfl⟩ := Rd.map_strG hx
          have wlen := wordsOf_len w (List.mem_of_getElem? hw)
          have few := told_few ws ((wordsOf L (i + 1)).take j)
          rw [List.length_take] at few
          walk_at "go"
          refine ⟨rfl, ?_⟩
          walk_at "go"
          refine Rd.fld (sm2 _ _ (s3 _ _ hb)) T.cl_Book T.na_Book_watches rfl ?_
          walk_at "go"
          refine ⟨t, ws, w, rfl, .inr (.of (sm2 _ _ (s3 _ _ ht))), fun W m => ⟨(Wt.ok W m).l0, by have := (Wt.ok W m).l1; omega⟩, by omega, by omega, fun b1 H5 s5 e => ?_⟩
          walk_at "go"
          cases b1 with
          | true =>
            walk_at "go"
            refine Rd.lcPush (s5 _ _ hD2) nD2 (sm2.trans s5) (by rw [List.length_map, sizeLine_eq]; omega) fun G g off => ?_
            rw [told_step hw, told_yes (e.mp rfl), List.map_append]
            rfl
          | false =>
            walk_at "go"
            refine ⟨_, s5 _ _ hD2, sm2.trans s5, ?_⟩
            dsimp only
            rw [told_step hw, told_no (fun q => by simpa using e.mpr q), List.append_nil]
        · rintro D2 acc H4 nD2 hD2 sm2 rfl
          rw [List.length_map, List.take_length] at hD2
          have few2 := told_few ws (wordsOf L (i + 1))
          have few1 := told_few ws (allOf L i)
          walk_at "go"
          refine ⟨f, D2, _, _, rfl, rfl, sm2 _ _ gf3, hD2, by rw [List.length_map, List.length_map, sizeLine_eq]; omega, ?_⟩
          have off : ∀ b, b ≠ f → upd H4 f (.lst ((toldIn ws (allOf L i)).map V.str ++ (toldIn ws (wordsOf L (i + 1))).map V.str)) b = H4 b := fun b q => upd_ne q
          have at' : upd H4 f (.lst ((toldIn ws (allOf L i)).map V.str ++ (toldIn ws (wordsOf L (i + 1))).map V.str)) f = some (.lst ((toldIn ws (allOf L i)).map V.str ++ (toldIn ws (wordsOf L (i + 1))).map V.str)) := upd_same
          generalize upd H4 f (.lst ((toldIn ws (allOf L i)).map V.str ++ (toldIn ws (wordsOf L (i + 1))).map V.str)) = G5 at off at'
          walk_at "go"
          refine ⟨D, _, _, _, rfl, Rd.same_off (s3.trans sm2) nf0 off, ?_, by rw [off _ nDf.symm]; exact sm2 _ _ hD, nDf⟩
          rw [at', ← List.map_append]
          show some (HO.lst _) = some (.lst ((toldIn ws (allOf L i ++ wordsOf L (i + 1))).map V.str))
          unfold toldIn
          rw [List.filter_append]
    · rintro _ H2 ⟨wa, o5, o6, o7, rfl, s2, gf, gw, ne⟩
      have cf := told_few ws (allOf L m)
      walk_at "go"
      refine ⟨f, _, rfl, .of gf, fun z mz => ?_, fun l H3 s3 nl gl => ?_⟩
      · have := allOf_len z (List.mem_filter.mp (show z ∈ (allOf L m).filter _ from mz)).1
        omega
      · walk_at "go"
        exact k l H3 (s2.trans s3) (s2.free nl) gl

end
end W

namespace W
open PySem PySem.Spec PyProof.Rows L2
section
variable {P : Program} {w : World} {K : PySem.W.Frag} {mg : Str → Option Value} {base : Heap}
/-! ### the same words in the same order -/
theorem keyD_inj {a b : Str} (h1 : PySem.W.dataLe false keyD a b = true) (h2 : PySem.W.dataLe false keyD b a = true) : a = b := by
  replace h1 : (!PySem.W.dataLt (keyD b) (keyD a)) = true := h1
  replace h2 : (!PySem.W.dataLt (keyD a) (keyD b)) = true := h2
  rw [Bool.not_eq_true'] at h1 h2
  have e : PySem.W.keyToks (keyD a) = PySem.W.keyToks (keyD b) := PyProof.Rows.lex_total _ _ h2 h1
  refine PySem.W.str_of_cps ?_
  unfold keyD at e
  simp [PySem.W.keyToks, PySem.W.keyToksAll] at e
  first
    | exact e.2
    | (rw [e.2])
theorem inOrder_perm {zs us : List Str} (p : zs.Perm us) : inOrder zs = inOrder us :=
  List.Perm.eq_of_pairwise (le := fun a b => PySem.W.dataLe false keyD a b = true) (fun a b _ _ => keyD_inj) (PySem.W.sort_pairwise (PySem.W.sortLe_total _ _ _) zs) (PySem.W.sort_pairwise (PySem.W.sortLe_total _ _ _) us)
    (((List.mergeSort_perm zs _).trans p).trans (List.mergeSort_perm us _).symm)
theorem flat_perm {α β : Type} {f g : α → List β} : ∀ {l m : List α}, l.Perm m → (∀ a, (f a).Perm (g a)) → (l.flatMap f).Perm (m.flatMap g) := by
  intro l m p h
  refine (List.Perm.flatMap_right f p).trans ?_
  clear p
  induction m with
  | nil => exact .nil
  | cons a m ih =>
    rw [List.flatMap_cons, List.flatMap_cons]
    exact (h a).append ih
theorem wordsOf_perm {L M : Str} (h : (Re.Signs L).Perm (Re.Signs M)) : ∀ k : Nat, (wordsOf L k).Perm (wordsOf M k)
  | 0 => .refl _
  | k + 1 => flat_perm (wordsOf_perm h k) fun w => h.map _
theorem allOf_perm {L M : Str} (h : (Re.Signs L).Perm (Re.Signs M)) : ∀ k : Nat, (allOf L k).Perm (allOf M k)
  | 0 => .refl _
  | k + 1 => (allOf_perm h k).append (wordsOf_perm h (k + 1))
theorem told_perm {ws zs us : List Str} (h : zs.Perm us) : (toldIn ws zs).Perm (toldIn ws us) := h.filter _
theorem toldIn_congr {ws us : List Str} (h : ∀ z, Mw.Told ws z ↔ Mw.Told us z) (zs : List Str) : toldIn ws zs = toldIn us zs := by
  unfold toldIn
  exact List.filter_congr fun z _ => decide_eq_decide.mpr (h z)
theorem told_mono {ws us : List Str} (h : ∀ W ∈ ws, W ∈ us) {z : Str} (t : Mw.Told ws z) : Mw.Told us z := Mw.Star.mono (fun _ _ ⟨W, m, e⟩ => ⟨W, h W m, e⟩) t
/-! ### a watch that the others tell -/
theorem cut_cut {z W : Str} {s i n : Nat} (o : Mw.Occ W z s) (h : i + n ≤ W.length) : cutS W (some (i : Int)) (some ((i : Int) + (n : Int))) = cutS z (some ((s + i : Nat) : Int)) (some (((s + i : Nat) : Int) + (n : Int))) := by
  obtain ⟨h1, h2⟩ := o
  have zl : z.cps.toList.length = z.length := Array.length_toList
  have key : ∀ (x : Str) (a b : Nat), a ≤ b → b ≤ x.length → (cutS x (some (a : Int)) (some (b : Int))).cps.toList = (x.cps.toList.drop a).take (b - a) := fun x a b hab hb => by
    show ((((x.cps.toList.drop (HT.sIx x.length 0 (some (a : Int)))).take (HT.sIx x.length x.length (some (b : Int)) - HT.sIx x.length 0 (some (a : Int)))).toArray).toList) = _
    rw [HT.sIx_nat, HT.sIx_nat]
    have ma : min a x.length = a := Nat.min_eq_left (by omega)
    have mb : min b x.length = b := Nat.min_eq_left hb
    rw [ma, mb]
  have e1 : (W.cps.toList) = (z.cps.toList.drop s).take W.length := by
    have := congrArg (fun x : Str => x.cps.toList) h2
    rw [show (s : Int) + (W.length : Int) = ((s + W.length : Nat) : Int) by omega, key z s (s + W.length) (by omega) h1] at this
    rw [← this, show s + W.length - s = W.length by omega]
  refine PySem.W.str_of_cps ?_
  rw [show (i : Int) + (n : Int) = ((i + n : Nat) : Int) by omega, show (((s + i : Nat) : Int) + (n : Int)) = ((s + i + n : Nat) : Int) by omega, key W i (i + n) (by omega) h, key z (s + i) (s + i + n) (by omega) (by omega), e1, List.drop_take, List.drop_drop, List.take_take,
    show i + n - i = n by omega, show s + i + n - (s + i) = n by omega, Nat.min_eq_left (by omega)]
theorem adj_shift {us : List Str} {z W : Str} {s : Nat} (o : Mw.Occ W z s) {i j : Nat} (a : Mw.Adj us W i j) : Mw.Adj us z (s + i) (s + j) := by
  have one : ∀ {U : Str} {i : Nat}, Mw.Occ U W i → Mw.Occ U z (s + i) := fun {U i} h => by
    have := o.1
    have := h.1
    exact ⟨by omega, (cut_cut o h.1).symm.trans h.2⟩
  obtain ⟨U, m, e⟩ := a
  refine ⟨U, m, ?_⟩
  rcases e with ⟨h, e⟩ | ⟨h, e⟩
  · exact .inl ⟨one h, by omega⟩
  · exact .inr ⟨one h, by omega⟩
theorem star_shift {us : List Str} {z W : Str} {s : Nat} (o : Mw.Occ W z s) {i j : Nat} (a : Mw.Star (Mw.Adj us W) i j) : Mw.Star (Mw.Adj us z) (s + i) (s + j) := by
  induction a with
  | refl => exact .refl
  | step _ r ih => exact .step ih (adj_shift o r)
theorem told_drop {ws us : List Str} (h : ∀ W ∈ ws, Mw.Told us W) {z : Str} (t : Mw.Told ws z) : Mw.Told us z := by
  have one : ∀ i j, Mw.Adj ws z i j → Mw.Star (Mw.Adj us z) i j := fun i j ⟨W, m, e⟩ => by
    rcases e with ⟨o, e⟩ | ⟨o, e⟩
    · have := star_shift o (h W m)
      rw [Nat.add_zero] at this
      rw [e]
      exact this
    · have := star_shift o (h W m)
      rw [Nat.add_zero] at this
      rw [e]
      exact Mw.Star.symm (fun _ _ => Mw.Adj.symm _ _) this
  unfold Mw.Told at t ⊢
  have go : ∀ n, Mw.Star (Mw.Adj ws z) 0 n → Mw.Star (Mw.Adj us z) 0 n := fun n t => by
    induction t with
    | refl => exact .refl
    | step _ r ih => exact ih.trans (one _ _ r)
  exact go _ t

end
end W

namespace W
open PySem PySem.Spec PyProof.Rows L2
section
variable {P : Program} {w : World} {K : PySem.W.Frag} {mg : Str → Option Value} {base : Heap}
/-! ### a book with one more watch -/
def sp_Book_with_watch (K : PySem.W.Frag) (C : Addr) : Sp := fun vs H Q _ => ∃ (b : Addr) (z : Str) (ws : List Str), vs = [.ref b, .str z] ∧ BookAt C H b ws ∧ Watches (ws ++ [z]) ∧ ∀ b' H', BookAt C H' b' (ws ++ [z]) → Same H H' → H b' = none → Q (.ref b') H'
theorem ok_Book_with_watch (T : Txt K mg) : FnOk P w K mg base CX0 6 T.f_Book_with_watch T.fd_Book_with_watch ["self", "watch"] (sp_Book_with_watch K T.C_Book) := by
  refine T.F_Book_with_watch.ok sc_Book_with_watch (fun vs H Q E h => ?_) (fun cdv A outer s H vs Q E hr h => ?_)
  · obtain ⟨b, z, ws, rfl, _⟩ := h
    rfl
  · obtain ⟨b, z, ws, rfl, hB, L, k⟩ := h
    refine ⟨_, (pss_one (ps_ret (pe_make T.M_Book (ok_Book_init T) (hr.mono (by decide)) rfl T.c_Book T.b_Book_init .nil pass0 (pa_cons (pe_op (r := rCatA K) op_catA (pe_fld (pv 0) rfl) (pe_tup (pa_cons (pv 1) pa_nil))) pa_nil)))), ?_⟩
    obtain ⟨dx, t, hb, ht⟩ := id hB
    have l12 := L.l1
    rw [List.length_append] at l12
    walk_at "rd"
    refine Rd.fld hb T.cl_Book T.na_Book_watches rfl ?_
    walk_at "rd"
    refine ⟨Nat.le_of_ble_eq_true rfl, Rd.new fun q G1 nq gq s1 => ?_⟩
    walk_at "rd"
    refine Rk.catA (.of (s1 _ _ ht)) (.of gq) (fun e => nomatch e) (by rw [List.length_map, sizeLine_eq]; show ws.length + 1 ≤ _; omega) fun q2 G2 s2 gq2 => ?_
    have gq2' : SqT K G2 q2 ((ws ++ [z]).map V.str) := by rw [List.map_append]; exact gq2
    walk_at "rd"
    refine Rd.mk fun x dx2 G3 nx nd ne gx s3 off3 => ?_
    refine ⟨x, q2, ws ++ [z], rfl, ⟨dx2, gx⟩, .inr (Ru.same_tup s3 gq2'), L, fun G4 hB4 b4 => ⟨rfl, ?_⟩⟩
    exact k x G4 hB4 (fun c o e => b4 c o (ne_of_none (s2 _ _ (s1 _ _ e)) nx) (s3 _ _ (s2 _ _ (s1 _ _ e)))) ((s1.trans s2).free nx)

end
end W

namespace W
open PySem PySem.Spec PyProof.Rows L2
section
variable {P : Program} {w : World} {K : PySem.W.Frag} {mg : Str → Option Value} {base : Heap}
/-! ### far words: the states and their flags -/
open Mfb (ren firsts)
open Mfd (marks mk1)
abbrev sg (z : Str) : Mfb.Wd := z.cps.toList
theorem sg_len (z : Str) : (sg z).length = z.length := Array.length_toList
def Wss (ws : List Str) : List Mfb.Wd := ws.map sg
def mkV (m : List Nat) : List V := m.map fun n : Nat => V.int (n : Int)
theorem mkV_len (m : List Nat) : (mkV m).length = m.length := List.length_map _
theorem mkV_int (m : List Nat) : mkV m = (m.map Int.ofNat).map V.int := by unfold mkV; rw [List.map_map]; rfl
def StAt (H : Hp) (p : Addr) (s : Mfd.St) : Prop := ∃ (l : Str) (q : Addr), sg l = s.1 ∧ H p = some (.tup [.str l, .ref q]) ∧ H q = some (.tup (mkV s.2))
theorem StAt.keep {H H' : Hp} {p : Addr} {s : Mfd.St} (k : ∀ b xs, H b = some (.tup xs) → H' b = some (.tup xs)) (h : StAt H p s) : StAt H' p s := let ⟨l, q, e, h1, h2⟩ := h; ⟨l, q, e, k _ _ h1, k _ _ h2⟩
theorem StAt.same {H H' : Hp} {p : Addr} {s : Mfd.St} (k : Same H H') (h : StAt H p s) : StAt H' p s := h.keep fun b xs => k b _
/-- states of a sound shape -/
def Fit (s : Mfd.St) : Prop := s.1.length ≤ 12 ∧ s.2.length = s.1.length + 2
theorem fit0 : Fit Mfd.st0 := ⟨by decide, rfl⟩
theorem fit_step {Ws : List Mfb.Wd} {s : Mfd.St} (h : Fit s) (c : Nat) : Fit (Mfd.step Ws s c) := by
  obtain ⟨h1, h2⟩ := h
  have e : (s.1 ++ [c]).length = s.1.length + 1 := by rw [List.length_append, List.length_singleton]
  have m := Mfd.marks_len Ws s c
  unfold Mfd.step
  by_cases q : 12 < (s.1 ++ [c]).length
  · rw [if_pos q]
    refine ⟨by rw [List.length_drop]; omega, ?_⟩
    rw [Mfb.ren_len, List.length_append, List.length_take, List.length_drop, List.length_drop]
    omega
  · rw [if_neg q]
    show (s.1 ++ [c]).length ≤ 12 ∧ (ren (marks Ws s c)).length = (s.1 ++ [c]).length + 2
    exact ⟨by omega, by rw [Mfb.ren_len, m]; omega⟩
theorem fit_steps {Ws : List Mfb.Wd} : ∀ (y : Mfb.Wd) {s : Mfd.St}, Fit s → Fit (Mfd.steps Ws s y)
  | [], _, h => h
  | c :: y, _, h => fit_steps (Ws := Ws) y (fit_step h c)
def dOf : Nat → List Int → List (Key × V)
  | _, [] => []
  | n, x :: xs => (.inl x, .int (n : Nat)) :: dOf (n + 1) xs
theorem dOf_len : ∀ (n : Nat) (fs : List Int), (dOf n fs).length = fs.length
  | _, [] => rfl
  | n, x :: xs => by show (dOf (n + 1) xs).length + 1 = _; rw [dOf_len (n + 1) xs]; rfl
theorem dOf_snoc : ∀ (n : Nat) (fs : List Int) (x : Int), dOf n (fs ++ [x]) = dOf n fs ++ [(.inl x, .int ((n + fs.length : Nat) : Int))]
  | n, [], x => rfl
  | n, y :: fs, x => by
    show (.inl y, V.int (n : Nat)) :: dOf (n + 1) (fs ++ [x]) = _
    rw [dOf_snoc (n + 1) fs x, List.length_cons, show n + (fs.length + 1) = n + 1 + fs.length by omega]
    rfl
theorem dOf_val : ∀ (n : Nat) (fs : List Int) (x : Int), valV (dOf n fs) (.inl x) = if x ∈ fs then some (.int ((n + fs.idxOf x : Nat) : Int)) else none
  | n, [], x => by rw [if_neg List.not_mem_nil]; rfl
  | n, y :: fs, x => by
    by_cases c : y = x
    · subst c
      rw [if_pos (List.mem_cons_self ..)]
      refine (valV_pos (p := ((Sum.inl y : Key), V.int (n : Nat))) rfl).trans ?_
      rw [List.idxOf_cons_self]
      rfl
    · refine (valV_neg (p := ((Sum.inl y : Key), V.int (n : Nat))) (fun e => c (Sum.inl.inj e))).trans ?_
      rw [dOf_val (n + 1) fs x]
      have e : (y == x) = false := by simpa using c
      by_cases m : x ∈ fs
      · rw [if_pos m, if_pos (List.mem_cons_of_mem _ m), List.idxOf_cons, e, show n + 1 + fs.idxOf x = n + (fs.idxOf x + 1) by omega]
        rfl
      · rw [if_neg m, if_neg fun q => (List.mem_cons.mp q).elim (fun z => c z.symm) m]
theorem atI_neg {α : Type} (xs : List α) {k : Nat} (h1 : 1 ≤ k) (h2 : k ≤ xs.length) : atI xs (-(k : Int)) = xs[xs.length - k]? := by
  unfold atI ixN
  rw [if_neg (by omega)]
  have e : (-(k : Int) + (xs.length : Int)).toNat = xs.length - k := by omega
  have e' : ((xs.length : Int) + -(k : Int)).toNat = xs.length - k := by omega
  first
    | (rw [if_pos (by omega)]; simp only [Option.bind_some]; first | rw [e] | rw [e'])
    | (split <;> simp_all <;> omega)
theorem cut_toF {xs : List V} {m : Int} (h : 0 ≤ m) : cutV xs none (some m) = xs.take m.toNat := by
  have e1 : HT.sIx xs.length xs.length (some m) = min m.toNat xs.length := by
    have := HT.sIx_nat xs.length xs.length m.toNat
    rw [show ((m.toNat : Nat) : Int) = m by omega] at this
    exact this
  have e2 : HT.sIx xs.length 0 none = 0 := rfl
  unfold cutV
  rw [e1, e2, List.drop_zero, Nat.sub_zero]
  by_cases c : m.toNat ≤ xs.length
  · rw [Nat.min_eq_left c]
  · rw [List.take_of_length_le (by omega), List.take_of_length_le (by omega)]
theorem cut_fromF {xs : List V} {m : Nat} : cutV xs (some (m : Int)) none = xs.drop m := by
  have e1 : HT.sIx xs.length 0 (some (m : Int)) = min m xs.length := HT.sIx_nat _ _ m
  have e2 : HT.sIx xs.length xs.length none = xs.length := rfl
  unfold cutV
  rw [e1, e2]
  by_cases c : m ≤ xs.length
  · rw [Nat.min_eq_left c]
    exact List.take_of_length_le (by rw [List.length_drop]; exact Nat.le_refl _)
  · rw [List.drop_of_length_le (by omega), List.drop_of_length_le (by omega)]
    simp
theorem sg_drop1 (z : Str) (h : 1 ≤ z.length) : sg (cutS z (some 1) none) = (sg z).drop 1 := by
  have e1 : HT.sIx z.length 0 (some 1) = 1 := by
    have := HT.sIx_nat z.length 0 1
    rw [show (((1 : Nat) : Int)) = 1 from rfl] at this
    rw [this]
    omega
  have e2 : HT.sIx z.length z.length none = z.length := rfl
  unfold cutS
  rw [e1, e2]
  show (((z.cps.toList.drop 1).take (z.length - 1)).toArray).toList = _
  rw [List.toList_toArray]
  exact List.take_of_length_le (by rw [List.length_drop, Array.length_toList]; exact Nat.le_refl _)
theorem dsetdH {td ty tx : TE} {σ : L2.St} {H : Hp} {Q : VK} (h : td σ H fun x H1 => ∃ a, x = .ref a ∧ IsD H1 a ∧ ty σ H1 fun y H2 => tx σ H2 fun z H3 => ∃ (kvs : List (Key × V)) (k : Key), H3 a = some (.dK kvs) ∧ y = kV k ∧ kvs.length < sizeLine ∧ (∀ v, valV kvs k = some v → Q v H3) ∧ (valV kvs k = none → Q z (upd H3 a (.dK (putK kvs k z))))) : tDSetd td ty tx σ H Q := h
theorem tyFar {K : PySem.W.Frag} {z : Str} {H : Hp} {R : Prop} (h : R) : tyV K "str" (.str z) H ∧ R := ⟨by first | exact .inr (.inl ⟨rfl, _, rfl⟩) | exact .inr (.inr (.inl ⟨rfl, _, rfl⟩)) | exact .inr (.inr (.inr ⟨rfl, _, rfl⟩)) | (unfold tyV; simp), h⟩
def sp_renamed (K : PySem.W.Frag) : Sp := fun vs H Q _ => ∃ (a : Addr) (ms : List Int), vs = [.ref a] ∧ H a = some (.lst (ms.map V.int)) ∧ ms.length ≤ 1000 ∧ ∀ (q : Addr) H', Same H H' → H' q = some (.tup (mkV (ren ms))) → Q (.ref q) H'
def sp_fresh_state (K : PySem.W.Frag) : Sp := fun vs H Q _ => vs = [] ∧ ∀ (p : Addr) H', Same H H' → StAt H' p Mfd.st0 → Q (.ref p) H'
def sp_with_letter (K : PySem.W.Frag) : Sp := fun vs H Q _ => ∃ (a p : Addr) (ws : List Str) (s : Mfd.St) (c : Nat), vs = [.ref a, .ref p, .str ⟨#[c]⟩] ∧ Ru.SqR K H a (ws.map V.str) ∧ StAt H p s ∧ Fit s ∧ ∀ (p' : Addr) H', Same H H' → StAt H' p' (Mfd.step (Wss ws) s c) → Q (.ref p') H'
def sp_with_letters (K : PySem.W.Frag) : Sp := fun vs H Q _ => ∃ (a p : Addr) (ws : List Str) (s : Mfd.St) (y : Str), vs = [.ref a, .ref p, .str y] ∧ Ru.SqR K H a (ws.map V.str) ∧ StAt H p s ∧ Fit s ∧ ∀ (p' : Addr) H', Same H H' → StAt H' p' (Mfd.steps (Wss ws) s (sg y)) → Q (.ref p') H'
def sp_is_met (K : PySem.W.Frag) : Sp := fun vs H Q _ => ∃ (p : Addr) (s : Mfd.St), vs = [.ref p] ∧ StAt H p s ∧ Fit s ∧ Q (.bl (Mfd.met s)) H
theorem ok_renamed (T : Txt K mg) : FnOk P w K mg base CX0 1 T.f_renamed T.fd_renamed ["marks"] (sp_renamed K) := by
  refine T.F_renamed.ok sc_renamed (fun vs H Q E h => ?_) (fun cdv A outer s H vs Q E hr h => ?_)
  · obtain ⟨a, ms, rfl, _⟩ := h
    rfl
  · obtain ⟨a, ms, rfl, ga, ml, k⟩ := h
    refine ⟨_, (pss_cons (ps_set (i := 1) sc_renamed.nd rfl (.inr rfl) pe_dnewK)
  (pss_cons (ps_for PassesOwn.never rfl (pi_list (pv 0)) (pg_name (i := 2) sc_renamed.nd rfl (.inl rfl))
  (pss_one (ps_expr (pe_dsetd (pv 1) (pv 2) (pe_callB (id := "len") (r := _) call_lenD (by rfl) T.n_len (by decide +kernel) (pa_cons (pv 1) pa_nil)) ⟨rfl, rfl, rfl, rfl⟩))))
  (pss_one (ps_ret (pe_callTy (T := "tuple") (r := Rd.nTupOf K) Rd.c_tupOf (by rfl) T.n_tuple (by decide +kernel) (pa_cons (pe_lc (own := [("mark", 2)]) (g := gName 2) (tt := tYes) rfl sc_renamed.nd (pi_list (pv 0)) (blkOk_by (own := [("mark", 2)]) (N := ["marks", "first", "mark"]) (sc := defScope s_renamed) (by decide +kernel)) (fun _ _ _ _ _ => (pg_name (i := 2) sc_renamed.nd rfl (.inl rfl))) (fun _ _ _ _ _ => pts_nil) (fun _ _ _ _ _ => (pe_dget (hu_of hr) (pv 1) (pv 2) (fun _ _ => rfl)))) pa_nil)))))), ?_⟩
    have fl : ∀ n, (firsts (ms.take n)).length ≤ ms.length := fun n => by
      have : ∀ xs : List Int, (firsts xs).length ≤ xs.length := by
        intro xs
        induction xs using Mfb.snoc_ind with
        | h0 => exact Nat.le_refl _
        | h xs y ih =>
          rw [Mfb.firsts_snoc]
          split
          · rw [List.length_append]
            omega
          · rw [List.length_append, List.length_append, List.length_singleton]
            omega
      have := this (ms.take n)
      rw [List.length_take] at this
      omega
    walk_at "rd"
    refine Rd.dnew fun d H1 nd gd s1 => ?_
    have da : a ≠ d := ne_of_none ga nd
    walk_at "rd"
    refine Rd.forS ?_
    walk_at "rd"
    refine ⟨⟨_, .of (s1 _ _ ga)⟩, for_list (K := K) (a := a) (xs := ms.map V.int) (fun i σ H' => ∃ o, σ = [some (.ref a), some (.ref d), o] ∧ H' d = some (.dK (dOf 0 (firsts (ms.take i)))) ∧ ∀ b, b ≠ d → H' b = H1 b)
      ⟨none, rfl, gd, fun _ _ => rfl⟩ (fun i σ H' _ ⟨_, _, _, off⟩ => .of (by rw [off a da]; exact s1 _ _ ga)) ?_ ?_⟩
    · rintro i v _ H2 hv ⟨o, rfl, g2, off2⟩
      obtain ⟨x, hx, rfl⟩ := Rd.map_get hv
      walk_at "rd"
      refine dsetdH ?_
      walk_at "rd"
      refine ⟨.inl ⟨_, .inl g2⟩, ?_⟩
      walk_at "rd"
      refine ⟨d, _, rfl, g2, ?_⟩
      refine ⟨_, .inl x, g2, rfl, by rw [dOf_len, sizeLine_eq]; have := fl i; omega, fun w hw => ?_, fun hw => ?_⟩
      · rw [dOf_val] at hw
        by_cases c : x ∈ firsts (ms.take i)
        · refine ⟨_, rfl, ?_, off2⟩
          rw [Rd.take_snoc hx, Mfb.firsts_snoc, if_pos c]
          exact g2
        · rw [if_neg c] at hw
          cases hw
      · have c : x ∉ firsts (ms.take i) := fun c => by
          rw [dOf_val, if_pos c] at hw
          cases hw
        refine ⟨_, rfl, ?_, fun b hb => ?_⟩
        · rw [Rd.take_snoc hx, Mfb.firsts_snoc, if_neg c, dOf_snoc, ← putK_new _ hw, dOf_len, Nat.zero_add]
          exact upd_same
        · rw [upd_ne hb, off2 b hb]
    · rintro _ H2 ⟨o, rfl, g2, off2⟩
      rw [List.length_map, List.take_length] at g2
      have ga2 : H2 a = some (.lst (ms.map V.int)) := by rw [off2 a da]; exact s1 _ _ ga
      have s02 : Same H H2 := fun b o e => by rw [off2 b (ne_of_none e nd)]; exact s1 b o e
      walk_at "rd"
      refine ⟨⟨_, .of ga2⟩, Rd.lcS walk_list (fun _ s => .of (s _ _ ga2)) (fun D i acc _ => acc = mkV ((ren ms).take i)) (fun _ _ _ _ _ => rfl) ?_ ?_⟩
      · rintro D i v G _ acc nD hi hD sm rfl ⟨rfl, hv⟩
        obtain ⟨x, hx, rfl⟩ := Rd.map_get hv
        rw [List.length_map] at hi
        have xm : x ∈ firsts ms := (Mfb.mem_firsts ms x).mpr (List.mem_of_getElem? hx)
        walk_at "rd"
        refine ⟨rfl, ?_⟩
        walk_at "rd"
        refine Rd.dget (sm _ _ g2) (by rw [dOf_val, if_pos xm]) ?_
        refine Rd.lcPush hD nD sm (by rw [mkV_len, List.length_take, Mfb.ren_len, sizeLine_eq]; omega) fun G3 _ _ => ?_
        have e : (ren ms)[i]? = some ((firsts ms).idxOf x) := by
          unfold ren
          rw [List.getElem?_map, hx]
          rfl
        rw [Rd.take_snoc e, Nat.zero_add]
        unfold mkV
        rw [List.map_append]
        rfl
      · rintro D acc G nD hD sm rfl
        rw [List.length_map, ← Mfb.ren_len ms, List.take_length] at hD
        walk_at "rd"
        refine Rd.tupOf (.of hD) (Rd.new fun q G2 nq gq s2 => ?_)
        walk_at "rd"
        exact k q G2 ((s02.trans sm).trans s2) gq
theorem ok_fresh_state (T : Txt K mg) : FnOk P w K mg base CX0 1 T.f_fresh_state T.fd_fresh_state [] (sp_fresh_state K) := by
  refine T.F_fresh_state.ok sc_fresh_state (fun vs H Q E h => ?_) (fun cdv A outer s H vs Q E hr h => ?_)
  · obtain ⟨rfl, _⟩ := h
    rfl
  · obtain ⟨rfl, k⟩ := h
    refine ⟨_, (pss_one (ps_ret (pe_tup (pa_cons pe_str (pa_cons (pe_tup (pa_cons pe_int (pa_cons pe_int pa_nil))) pa_nil))))), ?_⟩
    walk_at "rd"
    refine ⟨Nat.le_of_ble_eq_true rfl, Rd.new fun q G nq gq s => ?_⟩
    walk_at "rd"
    refine ⟨Nat.le_of_ble_eq_true rfl, Rd.new fun p G2 np gp s2 => ?_⟩
    walk_at "rd"
    exact k p G2 (s.trans s2) ⟨"", q, by decide +kernel, gp, s2 _ _ gq⟩
theorem ok_with_letter (T : Txt K mg) : FnOk P w K mg base CX0 2 T.f_with_letter T.fd_with_letter ["watches", "state", "letter"] (sp_with_letter K) := by
  refine T.F_with_letter.ok sc_with_letter (fun vs H Q E h => ?_) (fun cdv A outer s H vs Q E hr h => ?_)
  · obtain ⟨a, p, ws, s, c, rfl, _⟩ := h
    rfl
  · obtain ⟨a, p, ws, s, c, rfl, hS, hp, fit, k⟩ := h
    refine ⟨_, (pss_cons (ps_set (i := 3) sc_with_letter.nd rfl (.inl rfl) (pe_op Rd.o_addS (pe_ix (r := rIxT K) ix_tup (pv 1) pe_int (fun _ _ => rfl)) (pv 2)))
  (pss_cons (ps_set (i := 4) sc_with_letter.nd rfl (.inl rfl) (pe_op op_cat (pe_callTy (T := "list") (r := Rd.nListOf K) Rd.c_listOf (by rfl) T.n_list (by decide +kernel) (pa_cons (pe_ix (r := rIxT K) ix_tup (pv 1) pe_int (fun _ _ => rfl)) pa_nil)) (pe_lst (pa_cons (pe_callB (id := "len") (r := Rd.nLen K) Rd.c_len (by rfl) T.n_len (by decide +kernel) (pa_cons (pe_ix (r := rIxT K) ix_tup (pv 1) pe_int (fun _ _ => rfl)) pa_nil)) pa_nil))))
  (pss_cons (ps_for PassesOwn.never rfl (Ru.pi_or (pi_list (pv 0)) (pi_tup (pv 0))) (pg_name (i := 5) sc_with_letter.nd rfl (.inl rfl))
  (pss_one (ps_if (pt_val (pe_bm PySem.F.plainAttrs_str PySem.F.slot_str_endswith PySem.F.type_str_endswith Bo.mt_ew (pv 3) (pa_cons (pv 5) pa_nil)))
  (pss_cons (ps_set (i := 6) sc_with_letter.nd rfl (.inr rfl) (pe_ix (r := rIxL K) ix_list (pv 4) (pe_un un_neg pe_int) (fun _ _ => rfl)))
  (pss_cons (ps_set (i := 7) sc_with_letter.nd rfl (.inr rfl) (pe_ix (r := rIxL K) ix_list (pv 4) (pe_op op_sub (pe_un un_neg pe_int) (pe_callB (id := "len") (r := _) Rd.c_lenS (by rfl) T.n_len (by decide +kernel) (pa_cons (pv 5) pa_nil))) (fun _ _ => rfl)))
  (pss_one (ps_setLc (i := 4) (own := [("mark", 8)]) (g := gName 8) (tt := tYes) rfl sc_with_letter.nd rfl rfl (sw_true rfl rfl rfl (by decide +kernel)) (pi_list (pv 4)) (blkOk_by (own := [("mark", 8)]) (N := ["watches", "state", "letter", "letters", "marks", "watch", "joined", "kept", "mark"]) (sc := defScope s_with_letter) (by decide +kernel)) (fun _ _ _ _ _ => (pg_name (i := 8) sc_with_letter.nd rfl (.inl rfl))) (fun _ _ _ _ _ => pts_nil) (fun _ _ _ _ _ => (pe_ifExp (pt_cmpR op_eq (pv 8) (pv 6) (nomark _)) (pv 7) (pv 8)))))))
  pss_nil)))
  (C8.pss_cut (ps_if (pt_cmpR op_gt (pe_callB (id := "len") (r := _) Rd.c_lenS (by rfl) T.n_len (by decide +kernel) (pa_cons (pv 3) pa_nil)) (pe_glob (v := .int 12) rfl T.m_MOST_WATCH ⟨_, rfl⟩) (nomark _))
  (pss_cons (ps_set (i := 3) sc_with_letter.nd rfl (.inl rfl) (pe_slice sl_str (pv 3) (po_some pe_int) po_none))
  (pss_one (ps_set (i := 4) sc_with_letter.nd rfl (.inl rfl) (pe_op op_cat (pe_slice (r := rSlL K) sl_list (pv 4) po_none (po_some pe_int)) (pe_slice (r := rSlL K) sl_list (pv 4) (po_some pe_int) po_none)))))
  pss_nil)
  (pss_one (ps_ret (pe_tup (pa_cons (pv 3) (pa_cons (pe_call (ok_renamed T) (hr.mono (by decide)) rfl T.g_renamed T.F_renamed.kp T.b_renamed .nil pass0 (pa_cons (pv 4) pa_nil)) pa_nil))))))))), ?_⟩
    obtain ⟨l, q, el, gp, gq⟩ := hp
    obtain ⟨f1, f2⟩ := fit
    have ll : l.length ≤ 12 := by rw [← sg_len, el]; exact f1
    have lc : (l ++ (⟨#[c]⟩ : Str)).length = l.length + 1 := by rw [strLen_append]; rfl
    have sgc : sg (l ++ (⟨#[c]⟩ : Str)) = s.1 ++ [c] := by
      show (l.cps ++ #[c]).toList = _
      rw [Array.toList_append]
      show sg l ++ [c] = _
      rw [el]
    walk_at "rd"
    refine Rd.ixT (.of gp) rfl ?_
    walk_at "rd"
    refine Rd.addS (by rw [sizeLine_eq, show (⟨#[c]⟩ : Str).length = 1 from rfl]; omega) ?_
    generalize l ++ (⟨#[c]⟩ : Str) = L at lc sgc
    walk_at "rd"
    refine Rd.ixT (.of gp) rfl ?_
    walk_at "rd"
    refine Rd.listOf (.inr (.of gq)) (Rd.new fun m1 H1 n1 g1 s1 => ?_)
    walk_at "rd"
    refine Rd.ixT (.of (s1 _ _ gp)) rfl ?_
    walk_at "rd"
    refine Rd.len (.inr (.of (s1 _ _ gq))) ?_
    rw [mkV_len]
    walk_at "rd"
    refine ⟨Nat.le_of_ble_eq_true rfl, Rd.new fun m2 H2 n2 g2 s2 => ?_⟩
    refine Rd.cat (s2 _ _ g1) g2 (by rw [mkV_len, sizeLine_eq, List.length_singleton]; omega) (Rd.new fun m3 H3 n3 g3 s3 => ?_)
    have s03 := (s1.trans s2).trans s3
    have e3 : mkV s.2 ++ [V.int (s.2.length : Nat)] = (s.2.map Int.ofNat ++ [(s.2.length : Int)]).map V.int := by
      rw [mkV_int, List.map_append]
      rfl
    rw [e3] at g3
    clear g1 g2 n1 n2 n3 s1 s2 s3 e3 m1 m2
    walk_at "rd"
    refine Ru.for_row (a := a) (xs := ws.map V.str) (fun Q q => ?_) (fun i σ H' => ∃ (m : Addr) (o5 o6 o7 o8 : Option V), σ = [some (.ref a), some (.ref p), some (.str ⟨#[c]⟩), some (.str L), some (.ref m), o5, o6, o7, o8] ∧ Same H H' ∧ H' m = some (.lst ((((Wss ws).take i).foldl (mk1 (s.1 ++ [c])) (s.2.map Int.ofNat ++ [(s.2.length : Int)])).map V.int)))
      hS ⟨m3, _, _, _, _, rfl, s03, g3⟩ (fun i σ H' _ ⟨_, _, _, _, _, _, s, _⟩ => s) ?_ ?_
    · walk_at "rd"
      exact q
    · clear g3 s03
      rintro i v _ H4 hv ⟨m, o5, o6, o7, o8, rfl, s4, g4⟩
      obtain ⟨W, hW, rfl⟩ := Rd.map_strG hv
      have hW' : (Wss ws)[i]? = some (sg W) := by unfold Wss; rw [List.getElem?_map, hW]; rfl
      have ml : (((Wss ws).take i).foldl (mk1 (s.1 ++ [c])) (s.2.map Int.ofNat ++ [(s.2.length : Int)])).length = s.1.length + 3 := by
        rw [Mfd.fold_len, List.length_append, List.length_map, List.length_singleton, f2]
      rw [Rd.take_snoc hW', List.foldl_append, List.foldl_cons, List.foldl_nil]
      generalize ((Wss ws).take i).foldl (mk1 (s.1 ++ [c])) (s.2.map Int.ofNat ++ [(s.2.length : Int)]) = ms at g4 ml
      walk_at "rd"
      refine tyFar ?_
      walk_at "rd"
      refine ⟨L, W, rfl, rfl, ?_⟩
      walk_at "rd"
      have ew : Txt.endswith L W = (sg W).isSuffixOf (s.1 ++ [c]) := by
        rw [Bool.eq_iff_iff, Bo.ew_iff, List.isSuffixOf_iff_suffix, ← sgc]
      unfold mk1
      rw [ew]
      cases qs : (sg W).isSuffixOf (s.1 ++ [c]) with
      | false =>
        walk_at "rd"
        rw [if_neg Bool.false_ne_true]
        exact ⟨m, _, _, _, _, rfl, s4, g4⟩
      | true =>
        have wl := (List.isSuffixOf_iff_suffix.mp qs).length_le
        rw [sg_len, List.length_append, List.length_singleton] at wl
        rw [if_pos rfl]
        have mlv : (ms.map V.int).length = ms.length := List.length_map _
        have e1 : atI (ms.map V.int) (-1) = some (.int (ms.getD (ms.length - 1) 0)) := by
          have := atI_neg (ms.map V.int) (k := 1) (Nat.le_refl _) (by rw [mlv]; omega)
          rw [mlv, List.getElem?_map, Mfd.getD_get (by omega)] at this
          exact this
        have e2 : atI (ms.map V.int) (-1 - (W.length : Int)) = some (.int (ms.getD (ms.length - 1 - W.length) 0)) := by
          have := atI_neg (ms.map V.int) (k := W.length + 1) (by omega) (by rw [mlv]; omega)
          rw [mlv, List.getElem?_map, show ms.length - (W.length + 1) = ms.length - 1 - W.length by omega, Mfd.getD_get (by omega), show (-((W.length + 1 : Nat) : Int)) = -1 - (W.length : Int) by omega] at this
          exact this
        rw [sg_len]
        generalize ms.getD (ms.length - 1) 0 = y at e1
        generalize ms.getD (ms.length - 1 - W.length) 0 = x at e2
        walk_at "rd"
        refine Rd.ixL (.of g4) e1 ?_
        walk_at "rd"
        refine Rd.lenStr (by rw [sizeLine_eq]; omega) ?_
        walk_at "rd"
        refine Rd.ixL (.of g4) e2 ?_
        walk_at "rd"
        refine ⟨⟨_, .of g4⟩, Rd.lcS walk_list (fun _ s => .of (s _ _ g4)) (fun D j acc _ => acc = ((ms.take j).map (Mfc.one x y)).map V.int) (fun _ _ _ _ _ => rfl) ?_ ?_⟩
        · rintro D j v _ G acc nD hj hD sm rfl ⟨rfl, hx⟩
          obtain ⟨t, ht, rfl⟩ := Rd.map_get hx
          rw [List.length_map] at hj
          walk_at "rd"
          refine ⟨rfl, ?_⟩
          walk_at "rd"
          have fin : ∀ (u : Int), u = Mfc.one x y t → Rd.LcPush D H4 (fun j acc _ => acc = ((ms.take j).map (Mfc.one x y)).map V.int) j (.int u) G := fun u e => by
            refine Rd.lcPush hD nD sm (by rw [List.length_map, List.length_map, List.length_take, sizeLine_eq]; omega) fun G3 _ _ => ?_
            rw [Rd.take_snoc ht, List.map_append, List.map_append, e]
            rfl
          by_cases d : t = y
          · refine Rd.yes d ?_
            walk_at "rd"
            exact fin x (by unfold Mfc.one; rw [if_pos d])
          · refine Rd.no d ?_
            walk_at "rd"
            exact fin t (by unfold Mfc.one; rw [if_neg d])
        · rintro D acc G nD hD sm rfl
          rw [List.length_map, List.take_length] at hD
          walk_at "rd"
          exact ⟨D, _, _, _, _, rfl, s4.trans sm, hD⟩
    · clear g3 s03
      rintro _ H4 ⟨m, o5, o6, o7, o8, rfl, s4, g4⟩
      rw [List.length_map, show ws.length = (Wss ws).length from (List.length_map _).symm, List.take_length] at g4
      have ml := Mfd.marks_len (Wss ws) s c
      have em : (Wss ws).foldl (mk1 (s.1 ++ [c])) (s.2.map Int.ofNat ++ [(s.2.length : Int)]) = marks (Wss ws) s c := rfl
      rw [em] at g4
      have st : Mfd.step (Wss ws) s c = (if 12 < (s.1 ++ [c]).length then ((s.1 ++ [c]).drop 1, ren ((marks (Wss ws) s c).take 1 ++ (marks (Wss ws) s c).drop 2)) else (s.1 ++ [c], ren (marks (Wss ws) s c))) := rfl
      generalize marks (Wss ws) s c = ms at g4 ml st
      have lL : (s.1 ++ [c]).length = L.length := by rw [← sgc, sg_len]
      walk_at "rd"
      refine Rd.cut (fun σ H' => ∃ (L' : Str) (m' : Addr) (ms' : List Int), σ = [some (.ref a), some (.ref p), some (.str ⟨#[c]⟩), some (.str L'), some (.ref m'), o5, o6, o7, o8] ∧ Same H H' ∧ H' m' = some (.lst (ms'.map V.int)) ∧ ms'.length ≤ 100 ∧ Mfd.step (Wss ws) s c = (sg L', ren ms')) ?_ ?_
      · walk_at "rd"
        refine Rd.lenStr (by rw [sizeLine_eq]; omega) ?_
        walk_at "rd"
        refine ite2 (fun g => ?_) (fun g => ?_)
        · walk_at "rd"
          refine Rd.slS (by rw [sizeLine_eq]; omega) ?_
          walk_at "rd"
          refine Rd.slL (.of g4) (Rd.new fun t1 H5 nt1 gt1 s5 => ?_)
          walk_at "rd"
          refine Rd.slL (.of (s5 _ _ g4)) (Rd.new fun t2 H6 nt2 gt2 s6 => ?_)
          have c1 : cutV (ms.map V.int) none (some 1) = (ms.take 1).map V.int := by
            rw [cut_toF (by decide)]
            rw [List.map_take]
            rfl
          have c2 : cutV (ms.map V.int) (some 2) none = (ms.drop 2).map V.int := by
            rw [show (2 : Int) = ((2 : Nat) : Int) from rfl, cut_fromF]
            rw [List.map_drop]
          rw [c1] at gt1
          rw [c2] at gt2
          refine Rd.cat (s6 _ _ gt1) gt2 (by rw [List.length_map, List.length_map, List.length_take, List.length_drop, sizeLine_eq]; omega) (Rd.new fun t3 H7 nt3 gt3 s7 => ?_)
          walk_at "rd"
          refine ⟨_, t3, ms.take 1 ++ ms.drop 2, rfl, ((s4.trans s5).trans s6).trans s7, by rw [gt3, List.map_append], by rw [List.length_append, List.length_take, List.length_drop]; omega, ?_⟩
          rw [st, if_pos (by rw [lL]; omega)]
          refine Prod.ext ?_ rfl
          show (s.1 ++ [c]).drop 1 = _
          rw [← sgc]
          exact (sg_drop1 L (by omega)).symm
        · walk_at "rd"
          refine ⟨L, m, ms, rfl, s4, g4, by omega, ?_⟩
          rw [st, if_neg (by rw [lL]; omega), sgc]
      · rintro _ H5 ⟨L', m', ms', rfl, s5, g5, l5, e5⟩
        walk_at "rd"
        refine ⟨m', ms', rfl, g5, by omega, fun q H6 s6 gq => ?_⟩
        walk_at "rd"
        refine ⟨Nat.le_of_ble_eq_true rfl, Rd.new fun p' H7 np gp' s7 => ?_⟩
        walk_at "rd"
        exact k p' H7 ((s5.trans s6).trans s7) ⟨L', q, by rw [e5], gp', by rw [e5]; exact s7 _ _ gq⟩
theorem ok_with_letters (T : Txt K mg) : FnOk P w K mg base CX0 3 T.f_with_letters T.fd_with_letters ["watches", "state", "letters"] (sp_with_letters K) := by
  refine T.F_with_letters.ok sc_with_letters (fun vs H Q E h => ?_) (fun cdv A outer s H vs Q E hr h => ?_)
  · obtain ⟨a, p, ws, s, y, rfl, _⟩ := h
    rfl
  · obtain ⟨a, p, ws, s, y, rfl, hS, hp, fit, k⟩ := h
    refine ⟨_, (pss_cons (ps_for PassesOwn.never rfl (pi_str (pv 2)) (pg_name (i := 3) sc_with_letters.nd rfl (.inl rfl))
  (pss_one (ps_set (i := 1) sc_with_letters.nd rfl (.inl rfl) (pe_call (ok_with_letter T) (hr.mono (by decide)) rfl T.g_with_letter T.F_with_letter.kp T.b_with_letter .nil pass0 (pa_cons (pv 0) (pa_cons (pv 1) (pa_cons (pv 3) pa_nil)))))))
  (pss_one (ps_ret (pv 1)))), ?_⟩
    walk_at "rd"
    refine Rd.forS ?_
    walk_at "rd"
    refine for_it walk_str (fun i σ H' => ∃ (p' : Addr) (o : Option V), σ = [some (.ref a), some (.ref p'), some (.str y), o] ∧ Same H H' ∧ StAt H' p' (Mfd.steps (Wss ws) s ((sg y).take i)))
      ⟨p, _, rfl, Same.refl _, hp⟩ (fun _ _ _ _ _ => trivial) ?_ ?_
    · rintro i x _ H1 _ hi ⟨p', o, rfl, s1, h1⟩ ⟨rfl, c, hc, rfl⟩
      have hc' : (sg y)[i]? = some c := by rw [Array.getElem?_toList]; exact hc
      walk_at "rd"
      refine ⟨a, p', ws, _, c, rfl, Ru.SqR.same s1 hS, h1, fit_steps (Ws := Wss ws) ((sg y).take i) fit, fun p2 H2 s2 h2 => ?_⟩
      walk_at "rd"
      refine ⟨p2, _, rfl, s1.trans s2, ?_⟩
      rw [Rd.take_snoc hc', Mfd.steps_app]
      exact h2
    · rintro _ H1 ⟨p', o, rfl, s1, h1⟩
      have e : (sg y).take y.cps.size = sg y := List.take_of_length_le (by rw [Array.length_toList]; exact Nat.le_refl _)
      rw [e] at h1
      walk_at "rd"
      exact k p' H1 s1 h1
theorem ok_is_met (T : Txt K mg) : FnOk P w K mg base CX0 1 T.f_is_met T.fd_is_met ["state"] (sp_is_met K) := by
  refine T.F_is_met.ok sc_is_met (fun vs H Q E h => ?_) (fun cdv A outer s H vs Q E hr h => ?_)
  · obtain ⟨p, s, rfl, _⟩ := h
    rfl
  · obtain ⟨p, s, rfl, ⟨l, q, el, gp, gq⟩, ⟨f1, f2⟩, k⟩ := h
    refine ⟨_, (pss_one (ps_ret (pe_cmpR op_eq (pe_ix (r := rIxT K) ix_tup (pe_ix (r := rIxT K) ix_tup (pv 0) pe_int (fun _ _ => rfl)) pe_int (fun _ _ => rfl)) (pe_ix (r := rIxT K) ix_tup (pe_ix (r := rIxT K) ix_tup (pv 0) pe_int (fun _ _ => rfl)) (pe_un un_neg pe_int) (fun _ _ => rfl)) (nomark _)))), ?_⟩
    have ml : (mkV s.2).length = s.2.length := mkV_len _
    have i1 : s.2.length - 1 < s.2.length := by omega
    have a0 : atI (mkV s.2) 0 = some (.int (s.2[0] : Nat)) := by
      refine atI_nat (j := 0) ?_
      unfold mkV
      rw [List.getElem?_map, List.getElem?_eq_getElem (by omega)]
      rfl
    have a1 : atI (mkV s.2) (-1) = some (.int (s.2[s.2.length - 1] : Nat)) := by
      have := atI_neg (mkV s.2) (k := 1) (Nat.le_refl _) (by rw [ml]; omega)
      rw [ml] at this
      refine this.trans ?_
      unfold mkV
      rw [List.getElem?_map, List.getElem?_eq_getElem i1]
      rfl
    walk_at "rd"
    refine Rd.ixT (.of gp) rfl ?_
    walk_at "rd"
    refine Rd.ixT (.of gq) a0 ?_
    walk_at "rd"
    refine Rd.ixT (.of gp) rfl ?_
    walk_at "rd"
    refine Rd.ixT (.of gq) a1 ?_
    walk_at "rd"
    have e : Mfd.met s = decide (((s.2[0] : Nat) : Int) = (s.2[s.2.length - 1] : Nat)) := by
      unfold Mfd.met
      rw [List.getElem?_eq_getElem (show 0 < s.2.length by omega), List.getElem?_eq_getElem i1, decide_eq_decide, Option.some.injEq]
      omega
    rw [← e]
    exact k

end
end W

namespace W
open PySem PySem.Spec PyProof.Rows L2
section
variable {P : Program} {w : World} {K : PySem.W.Frag} {mg : Str → Option Value} {base : Heap}
/-! ### the flags of a far word, till the states come round; the least round -/
def keyOf (s : Mfd.St) : Bn.NK := (⟨s.1.toArray⟩, s.2.map fun n : Nat => (Sum.inl (n : Int) : Key))
theorem keyOf_inj {s t : Mfd.St} (e : keyOf s = keyOf t) : s = t := by
  have e1 := congrArg Prod.fst e
  have e2 := congrArg Prod.snd e
  refine Prod.ext ?_ ?_
  · have := congrArg (fun z : Str => z.cps.toList) e1
    simpa [keyOf] using this
  · have e2 : s.2.map (fun n : Nat => (Sum.inl (n : Int) : Key)) = t.2.map (fun n : Nat => (Sum.inl (n : Int) : Key)) := e2
    have inj : ∀ (a b : List Nat), a.map (fun n : Nat => (Sum.inl (n : Int) : Key)) = b.map (fun n : Nat => (Sum.inl (n : Int) : Key)) → a = b := by
      intro a
      induction a with
      | nil =>
        intro b h
        cases b with
        | nil => rfl
        | cons y b => cases h
      | cons x a ih =>
        intro b h
        cases b with
        | nil => cases h
        | cons y b =>
          rw [List.map_cons, List.map_cons, List.cons.injEq] at h
          have q := Sum.inl.inj h.1
          rw [ih b h.2, show x = y by omega]
    exact inj _ _ e2
theorem StAt.key {H : Hp} {p : Addr} {s : Mfd.St} (h : StAt H p s) : Bo.KeyT H (keyOf s) p := by
  obtain ⟨l, q, e, h1, h2⟩ := h
  have el : l = (⟨s.1.toArray⟩ : Str) := by
    rw [← e]
  refine ⟨q, by rw [h1, el]; rfl, ?_⟩
  rw [h2]
  unfold mkV keyOf
  rw [List.map_map]
  try rfl
def Ents (es : List Bo.Ent) (f : Nat → Mfd.St) (k : Nat) : Prop := es.length = k ∧ ∀ i, i < k → ∃ a, es[i]? = some (keyOf (f i), a, .int (i : Nat))
theorem Ents.snoc {es : List Bo.Ent} {f : Nat → Mfd.St} {k : Nat} {a : Addr} (h : Ents es f k) : Ents (es ++ [(keyOf (f k), a, .int (k : Nat))]) f (k + 1) := by
  refine ⟨by rw [List.length_append, h.1, List.length_singleton], fun i hi => ?_⟩
  rcases Nat.lt_or_ge i k with q | q
  · obtain ⟨b, e⟩ := h.2 i q
    exact ⟨b, by rw [List.getElem?_append_left (by rw [h.1]; exact q)]; exact e⟩
  · have : i = k := by omega
    subst this
    exact ⟨a, by rw [← h.1]; exact List.getElem?_concat_length⟩
theorem Ents.mem {es : List Bo.Ent} {f : Nat → Mfd.St} {k : Nat} (h : Ents es f k) (s : Mfd.St) : Bo.hasK es (keyOf s) = true ↔ ∃ i, i < k ∧ f i = s := by
  rw [Bo.hasK_iff, List.mem_map]
  constructor
  · rintro ⟨e, m, q⟩
    obtain ⟨i, hi, ei⟩ := List.getElem_of_mem m
    rw [h.1] at hi
    obtain ⟨a, e'⟩ := h.2 i hi
    rw [List.getElem?_eq_getElem (by rw [h.1]; exact hi), ei] at e'
    cases e'
    exact ⟨i, hi, keyOf_inj q⟩
  · rintro ⟨i, hi, rfl⟩
    obtain ⟨a, e⟩ := h.2 i hi
    exact ⟨_, List.mem_of_getElem? e, rfl⟩
theorem Ents.val {es : List Bo.Ent} {f : Nat → Mfd.St} {k i : Nat} (h : Ents es f k) (hi : i < k) (d : ∀ i j, i < j → j < k → f i ≠ f j) : Bo.valN es (keyOf (f i)) = some (.int (i : Nat)) := by
  obtain ⟨a, e⟩ := h.2 i hi
  refine Bo.val_at e fun j hj e' he q => ?_
  obtain ⟨b, e2⟩ := h.2 j (by omega)
  rw [he] at e2
  cases e2
  exact d j i hj hi (keyOf_inj q)
def sp_flags_of (K : PySem.W.Frag) (C : Addr) : Sp := fun vs H Q _ => ∃ (b : Addr) (ws : List Str) (u y e : Str), vs = [.ref b, .str u, .str y, .str e] ∧ BookAt C H b ws ∧ (∀ W ∈ ws, 1 ≤ W.length ∧ W.length ≤ 12) ∧ 1 ≤ y.length ∧
  ∀ (t l : Addr) (fl : List Bool) (st : Nat) H', Same H H' → H l = none → H' t = some (.tup [.ref l, .int (st : Nat)]) → H' l = some (.lst (fl.map V.bl)) → Mfd.Flags (Wss ws) (sg u) (sg y) (sg e) fl st → Q (.ref t) H'
theorem wss_ok {ws : List Str} (h : ∀ W ∈ ws, 1 ≤ W.length ∧ W.length ≤ 12) : ∀ W ∈ Wss ws, 1 ≤ W.length ∧ W.length ≤ 12 := fun W m => by
  obtain ⟨V, mv, rfl⟩ := List.mem_map.mp m
  rw [sg_len]
  exact h V mv
theorem ok_flags_of (T : Txt K mg) : FnOk P w K mg base CX0 4 T.f_flags_of T.fd_flags_of ["book", "before", "middle", "behind"] (sp_flags_of K T.C_Book) := by
  refine T.F_flags_of.ok sc_flags_of (fun vs H Q E h => ?_) (fun cdv A outer s H vs Q E hr h => ?_)
  · obtain ⟨b, ws, u, y, e, rfl, _⟩ := h
    rfl
  · obtain ⟨b, ws, u, y, e, rfl, hB, hW, y1, k⟩ := h
    refine ⟨_, (pss_cons (ps_set (i := 4) sc_flags_of.nd rfl (.inl rfl) (pe_call (ok_with_letters T) (hr.mono (by decide)) rfl T.g_with_letters T.F_with_letters.kp T.b_with_letters .nil pass0 (pa_cons (pe_fld (pv 0) rfl) (pa_cons (pe_call0 (ok_fresh_state T) (hr.mono (by decide)) rfl T.g_fresh_state T.F_fresh_state.kp T.b_fresh_state .nil pass0) (pa_cons (pv 1) pa_nil)))))
  (pss_cons (ps_set (i := 5) sc_flags_of.nd rfl (.inl rfl) Bo.pe_nnew)
  (pss_cons (ps_set (i := 6) sc_flags_of.nd rfl (.inl rfl) (pe_lst pa_nil))
  (pss_cons (ps_set (i := 4) sc_flags_of.nd rfl (.inl rfl) (pe_call (ok_with_letters T) (hr.mono (by decide)) rfl T.g_with_letters T.F_with_letters.kp T.b_with_letters .nil pass0 (pa_cons (pe_fld (pv 0) rfl) (pa_cons (pv 4) (pa_cons (pv 2) pa_nil)))))
  (pss_cons (ps_while PassesOwn.never (pt_cmp (Bo.pc_nnotin (Bo.u16 hr) (pv 4) (pv 5)))
  (pss_cons (ps_asg (pe_callB (id := "len") (r := Rd.nLen K) Rd.c_len (by rfl) T.n_len (by decide +kernel) (pa_cons (pv 6) pa_nil)) (pg_sub (pv 5) (pv 4) (Bo.set_nd (Bo.u16 hr))))
  (pss_cons (ps_expr (pe_bm PySem.F.plainAttrs_list PySem.F.slot_list_append PySem.F.type_list_append mt_append (pv 6) (pa_cons (pe_call (ok_is_met T) (hr.mono (by decide)) rfl T.g_is_met T.F_is_met.kp T.b_is_met .nil pass0 (pa_cons (pe_call (ok_with_letters T) (hr.mono (by decide)) rfl T.g_with_letters T.F_with_letters.kp T.b_with_letters .nil pass0 (pa_cons (pe_fld (pv 0) rfl) (pa_cons (pv 4) (pa_cons (pv 3) pa_nil)))) pa_nil)) pa_nil)))
  (pss_one (ps_set (i := 4) sc_flags_of.nd rfl (.inl rfl) (pe_call (ok_with_letters T) (hr.mono (by decide)) rfl T.g_with_letters T.F_with_letters.kp T.b_with_letters .nil pass0 (pa_cons (pe_fld (pv 0) rfl) (pa_cons (pv 4) (pa_cons (pv 2) pa_nil)))))))))
  (pss_one (ps_ret (pe_tup (pa_cons (pv 6) (pa_cons (Bo.pe_nget (Bo.u16 hr) (pv 5) (pv 4) (fun _ _ => rfl)) pa_nil)))))))))), ?_⟩
    obtain ⟨dx, t, hb, ht⟩ := hB
    have hWs := wss_ok hW
    walk_at "rd"
    refine Rd.fld hb T.cl_Book T.na_Book_watches rfl ?_
    walk_at "rd"
    refine ⟨rfl, fun p0 H1 s1 h1 => ?_⟩
    walk_at "rd"
    refine ⟨t, p0, ws, _, u, rfl, .inr (.of (s1 _ _ ht)), h1, fit0, fun p1 H2 s2 h2 => ?_⟩
    walk_at "rd"
    refine Bo.nnewH fun d H3 nd hd s3 off3 => ?_
    walk_at "rd"
    refine ⟨Nat.le_of_ble_eq_true rfl, Rd.new fun l H4 nl gl s4 => ?_⟩
    walk_at "rd"
    have s04 := ((s1.trans s2).trans s3).trans s4
    refine Rd.fld (s04 _ _ hb) T.cl_Book T.na_Book_watches rfl ?_
    walk_at "rd"
    have f1 := fit_steps (Ws := Wss ws) (sg u) fit0
    refine ⟨t, p1, ws, _, y, rfl, .inr (.of (s04 _ _ ht)), (h2.same s3).same s4, f1, fun p2 H5 s5 h5 => ?_⟩
    have s05 := s04.trans s5
    have nd0 : H d = none := (s1.trans s2).free nd
    have nl0 : H l = none := ((s1.trans s2).trans s3).free nl
    have hd5 : Bo.Nd P w H5 d [] := (hd.same s4).same s5
    have dl : d ≠ l := fun q => by have z := hd.1; rw [q, nl] at z; cases z
    have gl5 := s5 _ _ gl
    have e0 := Mfd.far_zero (Wss ws) (sg u) (sg y)
    rw [← e0] at h5
    clear h1 h2 hd gl s1 s2 s3 s4 s5 s04 nd nl off3 e0
    have fitF : ∀ k, Fit (Mfd.far (Wss ws) (sg u) (sg y) k) := fun k => fit_steps (Ws := Wss ws) _ fit0
    walk_at "rd"
    refine Rd.whl (fun m σ H' => ∃ (n : Nat) (p : Addr) (es : List Bo.Ent), σ = [some (.ref b), some (.str u), some (.str y), some (.str e), some (.ref p), some (.ref d), some (.ref l)] ∧ m = 5045301 - n ∧ Same H H' ∧ StAt H' p (Mfd.far (Wss ws) (sg u) (sg y) n) ∧ Bo.Nd P w H' d es ∧ Ents es (Mfd.far (Wss ws) (sg u) (sg y)) n ∧
        (∀ i j, i < j → j < n → Mfd.far (Wss ws) (sg u) (sg y) i ≠ Mfd.far (Wss ws) (sg u) (sg y) j) ∧ H' l = some (.lst (((List.range n).map (Mfd.flag (Wss ws) (sg u) (sg y) (sg e))).map V.bl)))
      ⟨_, 0, p2, [], rfl, rfl, s05, h5, hd5, ⟨rfl, fun i hi => absurd hi (Nat.not_lt_zero i)⟩, fun i j _ hj => absurd hj (Nat.not_lt_zero j), gl5⟩ ?_
    clear h5 hd5 gl5 s05
    rintro m _ H6 ⟨n, p, es, rfl, rfl, s6, h6, hd6, he, ds, gl6⟩
    walk_at "rd"
    refine Bo.ninH ?_
    walk_at "rd"
    refine ⟨d, p, _, es, rfl, rfl, h6.key, hd6, ?_⟩
    walk_at "rd"
    by_cases c : ∃ i, i < n ∧ Mfd.far (Wss ws) (sg u) (sg y) i = Mfd.far (Wss ws) (sg u) (sg y) n
    · have hk := (he.mem _).mpr c
      rw [hk]
      obtain ⟨i, hi, ei⟩ := c
      refine Rd.no (by decide) ?_
      walk_at "rd"
      refine Bo.ngetH ?_
      walk_at "rd"
      refine ⟨d, p, _, es, .int (i : Nat), rfl, rfl, h6.key, hd6, by rw [← ei]; exact he.val hi ds, ?_⟩
      walk_at "rd"
      refine ⟨Nat.le_of_ble_eq_true rfl, Rd.new fun T' H7 nt gt s7 => ?_⟩
      walk_at "rd"
      exact k T' l _ i H7 (s6.trans s7) nl0 gt (s7 _ _ gl6) (Mfd.flags_of hWs (sg u) (sg y) (sg e) (by rw [sg_len]; exact y1) hi ds ei)
    · have hk : Bo.hasK es (keyOf (Mfd.far (Wss ws) (sg u) (sg y) n)) = false := by
        cases q : Bo.hasK es (keyOf (Mfd.far (Wss ws) (sg u) (sg y) n)) with
        | false => rfl
        | true => exact absurd ((he.mem _).mp q) c
      have ds' : ∀ i j, i < j → j < n + 1 → Mfd.far (Wss ws) (sg u) (sg y) i ≠ Mfd.far (Wss ws) (sg u) (sg y) j := fun i j hij hj q => by
        rcases Nat.lt_or_ge j n with z | z
        · exact ds i j hij z q
        · have : j = n := by omega
          subst this
          exact c ⟨i, hij, q⟩
      have few := Mfd.far_few hWs (sg u) (sg y) (by rw [sg_len]; exact y1) ds'
      rw [hk]
      refine Rd.yes rfl ?_
      refine Rd.whN ?_
      walk_at "rd"
      refine Rd.len (.inl (.of gl6)) ?_
      rw [List.length_map, List.length_map, List.length_range]
      walk_at "rd"
      refine ⟨d, p, _, es, rfl, rfl, h6.key, hd6, fun q => ?_, by rw [he.1, sizeLine_eq]; omega, fun G hG offG => ?_⟩
      · rw [← Bo.hasK_iff, hk] at q
        cases q
      have ktG : ∀ b xs, H6 b = some (.tup xs) → G b = some (.tup xs) := fun b xs q => by rw [offG b (ne_of q hd6.1 fun z => Bo.not_tup z.symm)]; exact q
      have smG : Same H G := fun b o q => by rw [offG b (ne_of_none q nd0)]; exact s6 b o q
      have glG : G l = some (.lst (((List.range n).map (Mfd.flag (Wss ws) (sg u) (sg y) (sg e))).map V.bl)) := by rw [offG l dl.symm]; exact gl6
      have hG6 := h6.keep ktG
      clear hd6 gl6 h6 ktG offG s6
      walk_at "rd"
      refine Rd.tyL (.of glG) ?_
      walk_at "rd"
      refine Rd.fld (smG _ _ hb) T.cl_Book T.na_Book_watches rfl ?_
      walk_at "rd"
      refine ⟨t, p, ws, _, e, rfl, .inr (.of (smG _ _ ht)), hG6, fitF n, fun p3 H7 s7 h7 => ?_⟩
      walk_at "rd"
      refine ⟨p3, _, rfl, h7, fit_steps (Ws := Wss ws) _ (fitF n), ?_⟩
      walk_at "rd"
      refine Rd.app (s7 _ _ glG) (by rw [List.length_map, List.length_map, List.length_range, sizeLine_eq]; omega) fun H8 g8 off8 => ?_
      have sm8 : Same H H8 := fun b o q => by rw [off8 b (ne_of_none q nl0)]; exact s7 _ _ (smG b o q)
      have kt8 : ∀ b xs, G b = some (.tup xs) → H8 b = some (.tup xs) := fun b xs q => by rw [off8 b (ne_of q glG fun z => nomatch z)]; exact s7 _ _ q
      have hd8 : Bo.Nd P w H8 d (es ++ [(keyOf (Mfd.far (Wss ws) (sg u) (sg y) n), p, .int (n : Nat))]) := (hG.same s7).keep (off8 d dl) fun b xs q => by rw [off8 b (ne_of q (s7 _ _ glG) fun z => nomatch z)]; exact q
      walk_at "rd"
      refine Rd.fld (sm8 _ _ hb) T.cl_Book T.na_Book_watches rfl ?_
      walk_at "rd"
      refine ⟨t, p, ws, _, y, rfl, .inr (.of (sm8 _ _ ht)), hG6.keep kt8, fitF n, fun p4 H9 s9 h9 => ?_⟩
      walk_at "rd"
      rw [← Mfd.far_succ] at h9
      refine ⟨5045301 - (n + 1), by omega, n + 1, p4, _, rfl, rfl, sm8.trans s9, h9, hd8.same s9, he.snoc, ds', ?_⟩
      rw [List.range_succ, List.map_append, List.map_append]
      exact s9 _ _ g8
/-! rows of flags that repeat -/
def Per (fl : List Bool) (m : Nat) : Prop := fl.length % m = 0 ∧ (List.replicate (fl.length / m) (fl.take m)).flatten = fl
structure LeastR (fl : List Bool) (m : Nat) : Prop where
  m1 : 1 ≤ m
  ml : m ≤ fl.length
  per : Per fl m
  least : ∀ j, 1 ≤ j → j < m → ¬ Per fl j
theorem eqv_bls : ∀ (xs ys : List Bool), PyData.eqvAll (xs.map PyData.bool) (ys.map PyData.bool) = decide (xs = ys)
  | [], [] => rfl
  | [], _ :: _ => rfl
  | _ :: _, [] => rfl
  | x :: xs, y :: ys => by
    show (PyData.eqv (.bool x) (.bool y) && PyData.eqvAll (xs.map PyData.bool) (ys.map PyData.bool)) = _
    rw [eqv_bls xs ys, Bool.eq_iff_iff]
    cases x <;> cases y <;> simp [PyData.eqv]
theorem dpAll_bls {K : PySem.W.Frag} {H : Hp} : ∀ bs : List Bool, DpAll K H (bs.map V.bl) (bs.map PyData.bool)
  | [] => .nil
  | b :: bs => .cons (.bl b) (dpAll_bls bs)
theorem shaped_bls (bs : List Bool) : SeqAt.shaped (.list (bs.map PyData.bool)) = true := by
  have c : PyData.canLayAll0 (bs.map PyData.bool) = true := by
    induction bs with
    | nil => rfl
    | cons b bs ih => show (true && PyData.canLayAll0 (bs.map PyData.bool)) = true; rw [ih]; rfl
  have d : PyData.depthAll (bs.map PyData.bool) = 0 := by
    clear c
    induction bs with
    | nil => rfl
    | cons b bs ih => show max 0 (PyData.depthAll (bs.map PyData.bool)) = 0; rw [ih]; rfl
  unfold SeqAt.shaped
  rw [Bool.and_eq_true, decide_eq_true_iff]
  refine ⟨c, ?_⟩
  simp only [PyData.depth, d]
  omega
theorem eqBls {K : PySem.W.Frag} {H : Hp} {a b : Addr} {ns ms : List Bool} {Q : VK} (h1 : SqL K H a (ns.map V.bl)) (h2 : SqL K H b (ms.map V.bl)) (q : Q (.bl (decide (ns = ms))) H) : rEqD K (.ref a) (.ref b) H Q := by
  refine ⟨_, _, .lst h1 (dpAll_bls ns), .lst h2 (dpAll_bls ms), shaped_bls ns, shaped_bls ms, ?_⟩
  show Q (.bl (PyData.eqvAll (ns.map PyData.bool) (ms.map PyData.bool))) H
  rw [eqv_bls]
  exact q
theorem per_all (fl : List Bool) (h : 1 ≤ fl.length) : Per fl fl.length := by
  refine ⟨Nat.mod_self _, ?_⟩
  rw [Nat.div_self h, List.take_length]
  simp
def sp_least_round (K : PySem.W.Frag) : Sp := fun vs H Q _ => ∃ (a : Addr) (fl : List Bool), vs = [.ref a] ∧ H a = some (.lst (fl.map V.bl)) ∧ 1 ≤ fl.length ∧ fl.length ≤ 6000000 ∧ ∀ (l : Addr) (m : Nat) H', Same H H' → H l = none → H' l = some (.lst ((fl.take m).map V.bl)) → LeastR fl m → Q (.ref l) H'
theorem rep_mapF (n : Nat) (xs : List Bool) : ((List.replicate n xs).flatten).map V.bl = (List.replicate n (xs.map V.bl)).flatten := by
  induction n with
  | zero => rfl
  | succ n ih => rw [List.replicate_succ, List.flatten_cons, List.map_append, ih, List.replicate_succ, List.flatten_cons]
theorem ite_keepF {c A B : Prop} [Decidable c] (f : B → c → A) (h : B) : if c then A else B := by
  by_cases q : c
  · rw [if_pos q]
    exact f h q
  · rw [if_neg q]
    exact h
theorem ok_least_round (T : Txt K mg) : FnOk P w K mg base CX0 1 T.f_least_round T.fd_least_round ["flags"] (sp_least_round K) := by
  refine T.F_least_round.ok sc_least_round (fun vs H Q E h => ?_) (fun cdv A outer s H vs Q E hr h => ?_)
  · obtain ⟨a, fl, rfl, _⟩ := h
    rfl
  · obtain ⟨a, fl, rfl, ga, l1, l6, k⟩ := h
    refine ⟨_, (pss_cons (ps_for PassesOwn.never rfl (pi_range2 rfl T.n_range (pa_cons pe_int (pa_cons (pe_op op_add (pe_callB (id := "len") (r := Rd.nLen K) Rd.c_len (by rfl) T.n_len (by decide +kernel) (pa_cons (pv 0) pa_nil)) pe_int) pa_nil))) (pg_name (i := 1) sc_least_round.nd rfl (.inl rfl))
  (pss_one (ps_if (PW.pt (pw_and (pt_cmpR op_eq (pe_op op_mod (pe_callB (id := "len") (r := Rd.nLen K) Rd.c_len (by rfl) T.n_len (by decide +kernel) (pa_cons (pv 0) pa_nil)) (pv 1)) pe_int (nomark _)) (pw_and1 (pt_cmpR (r := rEqD K) (op_eqD hr.units) (pe_op op_rep (pe_slice (r := rSlL K) sl_list (pv 0) po_none (po_some (pv 1))) (pe_op op_fdiv (pe_callB (id := "len") (r := Rd.nLen K) Rd.c_len (by rfl) T.n_len (by decide +kernel) (pa_cons (pv 0) pa_nil)) (pv 1))) (pv 0) (nomark _)))))
  (pss_one (ps_ret (pe_slice (r := rSlL K) sl_list (pv 0) po_none (po_some (pv 1)))))
  pss_nil)))
  (pss_one (ps_ret (pv 0)))), ?_⟩
    walk_at "rd"
    refine Rd.forS ?_
    refine Rz.rng2 ?_
    walk_at "rd"
    refine Rd.len (.inl (.of ga)) ?_
    rw [List.length_map]
    walk_at "rd"
    refine ⟨⟨by decide, by decide, by omega, by omega⟩, ?_⟩
    rw [show ((fl.length : Int) + 1 - 1).toNat = fl.length by omega]
    refine for_range (lo := 1) (n := fl.length) (fun i σ H' => ∃ o, σ = [some (.ref a), o] ∧ Same H H' ∧ ∀ j, 1 ≤ j → j < i + 1 → ¬ Per fl j) ⟨none, rfl, Same.refl _, fun j h1 h2 => by omega⟩ ?_ ?_
    · rintro i _ H1 hi ⟨o, rfl, s1, no⟩
      have g1 := s1 _ _ ga
      have ei : (1 : Int) + (i : Int) = ((i + 1 : Nat) : Int) := by omega
      rw [ei]
      walk_at "rd"
      refine Rd.len (.inl (.of g1)) ?_
      rw [List.length_map]
      walk_at "rd"
      refine Rd.iC (by omega) ?_
      walk_at "rd"
      have nxt : ¬ Per fl (i + 1) → ∃ o, ([some (.ref a), some (.int ((i + 1 : Nat) : Int))] : L2.St) = [some (.ref a), o] ∧ Same H H1 ∧ ∀ j, 1 ≤ j → j < i + 1 + 1 → ¬ Per fl j := fun np => ⟨_, rfl, s1, fun j h1 h2 => by
        rcases Nat.lt_or_ge j (i + 1) with q | q
        · exact no j h1 q
        · rw [show j = i + 1 by omega]
          exact np⟩
      by_cases c1 : fl.length % (i + 1) = 0
      · refine Rd.yes (by rw [← Int.natCast_emod]; omega) ?_
        walk_at "rd"
        refine Rd.slL (.of g1) (Rd.new fun t1 H2 nt1 gt1 s2 => ?_)
        have ct : cutV (fl.map V.bl) none (some ((i + 1 : Nat) : Int)) = (fl.take (i + 1)).map V.bl := by
          rw [cut_toF (by omega), List.map_take]
          congr 1
        rw [ct] at gt1
        walk_at "rd"
        refine Rd.len (.inl (.of (s2 _ _ g1))) ?_
        rw [List.length_map]
        walk_at "rd"
        refine Rd.iC ⟨by omega, by omega⟩ ?_
        have eq : (fl.length : Int) / ((i + 1 : Nat) : Int) = ((fl.length / (i + 1) : Nat) : Int) := by rw [Int.natCast_ediv]
        rw [eq]
        have dl : fl.length / (i + 1) ≤ fl.length := Nat.div_le_self _ _
        have ml : (i + 1) * (fl.length / (i + 1)) ≤ fl.length := Nat.mul_div_le _ _
        refine Rd.rep gt1 (Int.le_trans (by decide) (Int.natCast_nonneg _)) (Int.lt_of_le_of_lt (Int.ofNat_le.mpr dl) (by omega)) (by
          rw [Int.toNat_natCast, List.length_map, List.length_take, Nat.min_eq_left (by omega), sizeLine_eq]
          exact Nat.le_trans ml (by omega)) (Rd.new fun t2 H3 nt2 gt2 s3 => ?_)
        rw [Int.toNat_natCast, ← rep_mapF] at gt2
        walk_at "rd"
        have s23 := s2.trans s3
        refine eqBls (.of gt2) (.of (s23 _ _ g1)) ?_
        by_cases c2 : (List.replicate (fl.length / (i + 1)) (fl.take (i + 1))).flatten = fl
        · rw [decide_eq_true c2]
          walk_at "rd"
          refine Rd.slL (.of (s23 _ _ g1)) (Rd.new fun t3 H4 nt3 gt3 s4 => ?_)
          rw [ct] at gt3
          walk_at "rd"
          exact k t3 (i + 1) H4 ((s1.trans s23).trans s4) ((s1.trans s23).free nt3) gt3 ⟨by omega, by omega, ⟨c1, c2⟩, no⟩
        · rw [decide_eq_false c2]
          walk_at "rd"
          obtain ⟨o, e, _, r⟩ := nxt fun q => c2 q.2
          exact ⟨o, e, s1.trans s23, r⟩
      · refine Rd.no (by rw [← Int.natCast_emod]; omega) ?_
        exact nxt fun q => c1 q.1
    · rintro _ H1 ⟨o, rfl, s1, no⟩
      exact absurd (per_all fl l1) (no fl.length l1 (by omega))

end
end W

namespace W
open PySem PySem.Spec PyProof.Rows L2
section
variable {P : Program} {w : World} {K : PySem.W.Frag} {mg : Str → Option Value} {base : Heap}
/-! ### flags rolled back -/
theorem str_zero {z : Str} (h : z.length = 0) : z = "" := by
  obtain ⟨⟨l⟩⟩ := z
  have : l.length = 0 := h
  rw [List.length_eq_zero_iff] at this
  subst this
  rfl
/-- the flags ahead of the round, rolled back while their last ones are alike -/
inductive Rolls : List Bool → List Bool → List Bool → List Bool → Prop
  | refl (a r : List Bool) : Rolls a r a r
  | step {a r a' r' : List Bool} {x : Bool} : Rolls a r (a' ++ [x]) (r' ++ [x]) → Rolls a r a' (x :: r')
structure PowAt (H : Hp) (p : Addr) (ws : List Str) (u y e : Str) : Prop where
  ex : ∃ (a r : Addr) (fl : List Bool) (st m : Nat) (ah rd : List Bool), H p = some (.tup [.ref a, .ref r]) ∧ H a = some (.lst (ah.map V.bl)) ∧ H r = some (.lst (rd.map V.bl)) ∧ Mfd.Flags (Wss ws) (sg u) (sg y) (sg e) fl st ∧ LeastR (fl.drop st) m ∧ Rolls (fl.take st) ((fl.drop st).take m) ah rd ∧
    ∀ a' r' x, ah = a' ++ [x] → rd ≠ r' ++ [x]
/-- the flag that stands for a number -/
def FarF (fl : List Bool) (st : Nat) (n : Int) (b : Bool) : Prop := fl[if n ≤ fl.length then (n - 1).toNat else (st + (n - 1 - st) % (fl.length - st)).toNat]? = some b
theorem snoc_of {α : Type} {xs : List α} (h : 1 ≤ xs.length) : ∃ ys y, xs = ys ++ [y] := ⟨xs.dropLast, xs.getLast (List.ne_nil_of_length_pos h), (List.dropLast_concat_getLast _).symm⟩
theorem last_bl (a : List Bool) (x : Bool) : atI ((a ++ [x]).map V.bl) (-1) = some (.bl x) := by
  rw [List.map_append]
  exact atI_last _ _
theorem popRow {l : Addr} {xs : List V} {y : V} {H : Hp} {Q : VK} (hp : H l = some (.lst (xs ++ [y]))) (h : ∀ G, G l = some (.lst xs) → (∀ b, b ≠ l → G b = H b) → Q y G) : rPop (.ref l) [] H Q :=
  ⟨l, xs ++ [y], y, rfl, rfl, hp, by rw [List.length_append, List.length_singleton]; exact List.getElem?_concat_length, h _ (by rw [List.dropLast_concat]; exact upd_same) fun b hb => upd_ne hb⟩
theorem cut_init {xs : List V} {y : V} : cutV (xs ++ [y]) none (some (-1)) = xs := by
  have e : HT.sIx (xs ++ [y]).length (xs ++ [y]).length (some (-1)) = xs.length := by
    unfold HT.sIx
    simp
    omega
  have e2 : HT.sIx (xs ++ [y]).length 0 none = 0 := rfl
  unfold cutV
  rw [e, e2, List.drop_zero, Nat.sub_zero, List.take_left]
theorem Rolls.len {a r a' r' : List Bool} (h : Rolls a r a' r') : a'.length + r'.length ≤ a.length + r.length ∧ r'.length = r.length := by
  induction h with
  | refl => exact ⟨Nat.le_refl _, rfl⟩
  | step _ ih => simp only [List.length_append, List.length_singleton, List.length_cons, List.length_nil] at ih ⊢; omega

end
end W

namespace W
open PySem PySem.Spec PyProof.Rows L2
section
variable {P : Program} {w : World} {K : PySem.W.Frag} {mg : Str → Option Value} {base : Heap}
/-! ### powers and far_told of right parts -/
structure PartsOk (u y e : Str) : Prop where
  lu : Lt.Let u
  ly : Lt.Let y
  le : Lt.Let e
  u20 : u.length ≤ 20
  y20 : y.length ≤ 20
  e20 : e.length ≤ 20
  y1 : 1 ≤ y.length
/-- what powers tells: the flags, as short as can be -/
structure Powf (Ws : List Mfb.Wd) (u y e : Mfb.Wd) (ah rd : List Bool) : Prop where
  rep : Mfe.Rep (Mfd.flag Ws u y e) ah rd
  prim : Mfe.Prim rd
  last : Mfe.Last ah rd
  few : ah.length + rd.length ≤ 5045300
theorem rolls_rep {f : Nat → Bool} {a r a' r' : List Bool} (h : Rolls a r a' r') : Mfe.Rep f a r → Mfe.Prim r → Mfe.Rep f a' r' ∧ Mfe.Prim r' := by
  induction h with
  | refl => exact fun R p => ⟨R, p⟩
  | step _ ih => exact fun R p => ⟨(ih R p).1.roll, Mfe.prim_roll (ih R p).2⟩
theorem powf_of {Ws : List Mfb.Wd} {u y e : Mfb.Wd} {fl : List Bool} {st m : Nat} {ah rd : List Bool} (F : Mfd.Flags Ws u y e fl st) (R : LeastR (fl.drop st) m) (ro : Rolls (fl.take st) ((fl.drop st).take m) ah rd) (no : ∀ a' r' x, ah = a' ++ [x] → rd ≠ r' ++ [x]) : Powf Ws u y e ah rd := by
  have R0 := Mfe.rep_flags F.lt F.is F.again
  obtain ⟨R1, P1⟩ := rolls_rep ro (Mfe.rep_take R0 R.m1 R.ml R.per) (Mfe.prim_take R.m1 R.ml R.per R.least)
  refine ⟨R1, P1, no, ?_⟩
  refine Nat.le_trans ro.len.1 ?_
  have := F.few
  have := F.lt
  rw [List.length_take, List.length_take, List.length_drop]
  omega
theorem powf_uniq {Ws Ws' : List Mfb.Wd} {u y e u' y' e' : Mfb.Wd} {ah rd ah' rd' : List Bool} (h : Powf Ws u y e ah rd) (h' : Powf Ws' u' y' e' ah' rd') (q : ∀ k, Mfd.flag Ws u y e k = Mfd.flag Ws' u' y' e' k) : ah = ah' ∧ rd = rd' := by
  have R' := h'.rep
  rw [← funext q] at R'
  exact Mfe.uniq h.rep h.prim h.last R' h'.prim h'.last
theorem farF_flag {Ws : List Mfb.Wd} {u y e : Mfb.Wd} {fl : List Bool} {st : Nat} {n : Int} {b : Bool} (F : Mfd.Flags Ws u y e fl st) (n1 : 1 ≤ n) (h : FarF fl st n b) : b = Mfd.flag Ws u y e (n - 1).toNat := by
  unfold FarF at h
  have lt := F.lt
  by_cases c : n ≤ fl.length
  · rw [if_pos c, F.is _ (by omega)] at h
    exact (Option.some.inj h).symm
  · rw [if_neg c] at h
    have R0 := (Mfe.rep_flags F.lt F.is F.again).rnd (k := (n - 1).toNat) (by rw [List.length_take]; omega)
    rw [List.length_take, Nat.min_eq_left (Nat.le_of_lt lt), List.length_drop, List.getElem?_drop] at R0
    have e : ((st : Int) + (n - 1 - (st : Int)) % ((fl.length : Int) - (st : Int))).toNat = st + ((n - 1).toNat - st) % (fl.length - st) := by
      have e1 : n - 1 - (st : Int) = (((n - 1).toNat - st : Nat) : Int) := by omega
      have e2 : (fl.length : Int) - (st : Int) = ((fl.length - st : Nat) : Int) := by omega
      rw [e1, e2, ← Int.natCast_emod]
      omega
    rw [e, R0] at h
    exact (Option.some.inj h).symm
def sp_check_parts (K : PySem.W.Frag) : Sp := fun vs H Q _ => ∃ (u y e : Str), vs = [.str u, .str y, .str e] ∧ PartsOk u y e ∧ ∀ H', Same H H' → Q .non H'
def sp_powers (K : PySem.W.Frag) (C : Addr) : Sp := fun vs H Q _ => ∃ (b : Addr) (ws : List Str) (u y e : Str), vs = [.ref b, .str u, .str y, .str e] ∧ BookAt C H b ws ∧ (∀ W ∈ ws, 1 ≤ W.length ∧ W.length ≤ 12) ∧ PartsOk u y e ∧
  ∀ (p a r : Addr) (ah rd : List Bool) H', Same H H' → H a = none → H r = none → a ≠ r → H' p = some (.tup [.ref a, .ref r]) → H' a = some (.lst (ah.map V.bl)) → H' r = some (.lst (rd.map V.bl)) → Powf (Wss ws) (sg u) (sg y) (sg e) ah rd → Q (.ref p) H'
def sp_far_told (K : PySem.W.Frag) (C : Addr) : Sp := fun vs H Q _ => ∃ (b : Addr) (ws : List Str) (u y e : Str) (n : Int), vs = [.ref b, .str u, .str y, .str e, .int n] ∧ BookAt C H b ws ∧ (∀ W ∈ ws, 1 ≤ W.length ∧ W.length ≤ 12) ∧ PartsOk u y e ∧ 1 ≤ n ∧ n ≤ 10 ^ 30 ∧ ∀ H', Same H H' → Q (.bl (Mfd.flag (Wss ws) (sg u) (sg y) (sg e) (n - 1).toNat)) H'
theorem ok_check_parts (T : Txt K mg) : FnOk P w K mg base CX0 4 T.f_check_parts T.fd_check_parts ["before", "middle", "behind"] (sp_check_parts K) := by
  refine T.F_check_parts.ok sc_check_parts (fun vs H Q E h => ?_) (fun cdv A outer s H vs Q E hr h => ?_)
  · obtain ⟨u, y, e, rfl, _⟩ := h
    rfl
  · obtain ⟨u, y, e, rfl, P, k⟩ := h
    refine ⟨_, (pss_one (ps_for PassesOwn.never rfl (Ru.pi_enumT (by rfl) T.n_enumerate (pa_cons (pe_tup (pa_cons (pv 0) (pa_cons (pv 1) (pa_cons (pv 2) pa_nil)))) pa_nil)) (pg_tup rfl (pgs_cons (pg_name (i := 3) sc_check_parts.nd rfl (.inl rfl)) (pgs_cons (pg_name (i := 4) sc_check_parts.nd rfl (.inl rfl)) pgs_nil)))
  (pss_one (ps_if (PW.pt (pw_or (pt_not (pt_val (pe_call (ok_is_letters T) (hr.mono (by decide)) rfl T.g_is_letters T.F_is_letters.kp T.b_is_letters .nil pass0 (pa_cons (pv 4) pa_nil)))) (pw_or (pt_cmpR op_gt (pe_callB (id := "len") (r := _) Rd.c_lenS (by rfl) T.n_len (by decide +kernel) (pa_cons (pv 4) pa_nil)) (pe_glob (v := .int 20) rfl T.m_MOST_PART ⟨_, rfl⟩) (nomark _)) (pw_or1 (PW.pt (pw_and (pt_cmpR op_eq (pv 3) pe_int (nomark _)) (pw_and1 (pt_cmpR op_eq (pv 4) pe_str (nomark _)))))))))
  (pss_one ps_never)
  pss_nil)))), ?_⟩
    walk_at "rd"
    refine Rd.forS ?_
    unfold Ru.iEnumT
    walk_at "rd"
    refine ⟨Nat.le_of_ble_eq_true rfl, Rd.new fun p G np gp sG => ?_⟩
    walk_at "rd"
    refine ⟨p, _, rfl, .of gp, ?_⟩
    refine Ru.for_enumT (K := K) (a := p) (xs := [.str u, .str y, .str e]) (fun i σ H' => (∃ o1 o2, σ = [some (.str u), some (.str y), some (.str e), o1, o2]) ∧ Same G H') ⟨⟨_, _, rfl⟩, Same.refl _⟩ (fun i σ H' _ ⟨_, s⟩ => .of (s _ _ gp)) ?_ ?_
    · rintro i v _ H' t hv ⟨⟨o1, o2, rfl⟩, sm⟩ hT
      obtain ⟨w, rfl, lw, w20, w1⟩ : ∃ w, v = .str w ∧ Lt.Let w ∧ w.length ≤ 20 ∧ (i = 1 → 1 ≤ w.length) := by
        match i, hv with
        | 0, e => cases e; exact ⟨_, rfl, P.lu, P.u20, fun e => by cases e⟩
        | 1, e => cases e; exact ⟨_, rfl, P.ly, P.y20, fun _ => P.y1⟩
        | 2, e => cases e; exact ⟨_, rfl, P.le, P.e20, fun e => by cases e⟩
        | i + 3, e => cases e
      refine Rd.tupT (.of upd_same) rfl ?_
      have sm2 := sm.trans (Rd.same_upd (o := .tup [.int (i : Nat), .str w]) hT)
      walk_at "rd"
      refine ⟨w, rfl, lw, by omega, fun H3 s3 => ?_⟩
      walk_at "rd"
      refine Rd.lenStr (by rw [sizeLine_eq]; omega) ?_
      walk_at "rd"
      refine ite2 (fun c1 => ?_) (fun c1 => ?_)
      · exact absurd c1 (by omega)
      · walk_at "rd"
        refine ite2 (fun c2 => ?_) (fun c2 => ?_)
        · walk_at "rd"
          refine ite2 (fun c3 => ?_) (fun c3 => ?_)
          · exfalso
            have := w1 (by omega)
            rw [show w = "" by simpa using c3] at this
            exact absurd this (by decide)
          · walk_at "rd"
            exact ⟨⟨_, _, rfl⟩, sm2.trans s3⟩
        · walk_at "rd"
          exact ⟨⟨_, _, rfl⟩, sm2.trans s3⟩
    · rintro _ H' ⟨⟨o1, o2, rfl⟩, sm⟩
      walk_at "rd"
      exact k _ (sG.trans sm)
theorem ok_powers (T : Txt K mg) : FnOk P w K mg base CX0 5 T.f_powers T.fd_powers ["book", "before", "middle", "behind"] (sp_powers K T.C_Book) := by
  refine T.F_powers.ok sc_powers (fun vs H Q E h => ?_) (fun cdv A outer s H vs Q E hr h => ?_)
  · obtain ⟨b, ws, u, y, e, rfl, _⟩ := h
    rfl
  · obtain ⟨b, ws, u, y, e, rfl, hB, hW, P, kN⟩ := h
    refine ⟨_, (pss_cons (ps_expr (pe_call (ok_check_book T) (hr.mono (by decide)) rfl T.g_check_book T.F_check_book.kp T.b_check_book .nil pass0 (pa_cons (pv 0) pa_nil)))
  (pss_cons (ps_expr (pe_call (ok_check_parts T) (hr.mono (by decide)) rfl T.g_check_parts T.F_check_parts.kp T.b_check_parts .nil pass0 (pa_cons (pv 1) (pa_cons (pv 2) (pa_cons (pv 3) pa_nil)))))
  (pss_cons (ps_asg (pe_call (ok_flags_of T) (hr.mono (by decide)) rfl T.g_flags_of T.F_flags_of.kp T.b_flags_of .nil pass0 (pa_cons (pv 0) (pa_cons (pv 1) (pa_cons (pv 2) (pa_cons (pv 3) pa_nil))))) (pg_tup rfl (pgs_cons (pg_name (i := 4) sc_powers.nd rfl (.inl rfl)) (pgs_cons (pg_name (i := 5) sc_powers.nd rfl (.inl rfl)) pgs_nil))))
  (pss_cons (ps_set (i := 6) sc_powers.nd rfl (.inl rfl) (pe_slice (r := rSlL K) sl_list (pv 4) po_none (po_some (pv 5))))
  (pss_cons (ps_set (i := 7) sc_powers.nd rfl (.inl rfl) (pe_call (ok_least_round T) (hr.mono (by decide)) rfl T.g_least_round T.F_least_round.kp T.b_least_round .nil pass0 (pa_cons (pe_slice (r := rSlL K) sl_list (pv 4) (po_some (pv 5)) po_none) pa_nil)))
  (pss_cons (ps_while PassesOwn.never (PW.pt (pw_and (pt_cmpR op_gt (pe_callB (id := "len") (r := Rd.nLen K) Rd.c_len (by rfl) T.n_len (by decide +kernel) (pa_cons (pv 6) pa_nil)) pe_int (nomark _)) (pw_and1 (pt_cmpR op_eq (pe_ix (r := rIxL K) ix_list (pv 6) (pe_un un_neg pe_int) (fun _ _ => rfl)) (pe_ix (r := rIxL K) ix_list (pv 7) (pe_un un_neg pe_int) (fun _ _ => rfl)) (nomark _)))))
  (pss_one (ps_set (i := 7) sc_powers.nd rfl (.inl rfl) (pe_op op_cat (pe_lst (pa_cons (pe_bm0 PySem.F.plainAttrs_list PySem.F.slot_list_pop PySem.F.type_list_pop mt_pop (pv 6)) pa_nil)) (pe_slice (r := rSlL K) sl_list (pv 7) po_none (po_some (pe_un un_neg pe_int)))))))
  (pss_one (ps_ret (pe_tup (pa_cons (pv 6) (pa_cons (pv 7) pa_nil))))))))))), ?_⟩
    have y1 := P.y1
    walk_at "rd"
    refine ⟨b, ws, rfl, hB, ?_⟩
    walk_at "rd"
    refine ⟨u, y, e, rfl, P, fun H1 s1 => ?_⟩
    walk_at "rd"
    have hB1 : BookAt T.C_Book H1 b ws := let ⟨dx, t, hb, ht⟩ := hB; ⟨dx, t, s1 _ _ hb, s1 _ _ ht⟩
    refine ⟨b, ws, u, y, e, rfl, hB1, hW, y1, fun t l fl st H2 s2 nl gt gl F => ?_⟩
    walk_at "rd"
    have stl := F.lt
    have few := F.few
    refine Rd.tupT (.of gt) rfl ?_
    walk_at "rd"
    refine Rd.slL (.of gl) (Rd.new fun a H3 na ga s3 => ?_)
    rw [cut_toF (Int.natCast_nonneg _), Int.toNat_natCast, ← List.map_take] at ga
    walk_at "rd"
    refine Rd.slL (.of (s3 _ _ gl)) (Rd.new fun r0 H4 nr0 gr0 s4 => ?_)
    rw [cut_fromF, ← List.map_drop] at gr0
    walk_at "rd"
    refine ⟨r0, fl.drop st, rfl, gr0, by rw [List.length_drop]; omega, by rw [List.length_drop]; omega, fun r m H5 s5 nr gr R => ?_⟩
    walk_at "rd"
    have na1 : H1 a = none := s2.free na
    refine Rd.whl (fun k σ H' => ∃ (r : Addr) (ah rd : List Bool), σ = [some (.ref b), some (.str u), some (.str y), some (.str e), some (.ref l), some (.int (st : Nat)), some (.ref a), some (.ref r)] ∧ k = ah.length ∧ Same H1 H' ∧ H1 r = none ∧ a ≠ r ∧ H' a = some (.lst (ah.map V.bl)) ∧ H' r = some (.lst (rd.map V.bl)) ∧ Rolls (fl.take st) ((fl.drop st).take m) ah rd)
      ⟨_, r, fl.take st, (fl.drop st).take m, rfl, rfl, ((s2.trans s3).trans s4).trans s5, ((s2.trans s3).trans s4).free nr, (fun q => by have := s4 _ _ ga; rw [q, nr] at this; cases this), s5 _ _ (s4 _ _ ga), gr, .refl _ _⟩ ?_
    rintro k _ H6 ⟨r, ah, rd, rfl, rfl, s6, nr6, ar, ga6, gr6, ro⟩
    have rl : rd.length = m := by
      rw [ro.len.2, List.length_take]
      exact Nat.min_eq_left R.ml
    have al : ah.length + rd.length ≤ fl.length := by
      refine Nat.le_trans ro.len.1 ?_
      rw [List.length_take, List.length_take, List.length_drop]
      omega
    have m1 := R.m1
    have done : (∀ a' r' x, ah = a' ++ [x] → rd ≠ r' ++ [x]) → ∀ p H7, Same H6 H7 → H7 p = some (.tup [.ref a, .ref r]) → Q (.ref p) H7 := fun no p H7 s7 gp => kN p a r ah rd H7 ((s1.trans s6).trans s7) (s1.free na1) (s1.free nr6) ar gp (s7 _ _ ga6) (s7 _ _ gr6) (powf_of F R ro no)
    walk_at "rd"
    refine Rd.len (.inl (.of ga6)) ?_
    rw [List.length_map]
    walk_at "rd"
    refine ite2 (fun c => ?_) (fun c => ?_)
    · obtain ⟨a', x, rfl⟩ := snoc_of (xs := ah) (by omega)
      obtain ⟨r', x2, rfl⟩ := snoc_of (xs := rd) (by omega)
      walk_at "rd"
      refine Rd.ixL (.of ga6) (last_bl _ _) ?_
      walk_at "rd"
      refine Rd.ixL (.of gr6) (last_bl _ _) ?_
      refine Rd.eqB ?_
      by_cases q : x = x2
      · subst q
        rw [beq_self_eq_true]
        refine ⟨true, rfl, ?_⟩
        rw [if_pos rfl]
        refine ⟨fun σ' H' => ∃ (r : Addr) (rd : List Bool), σ' = [some (.ref b), some (.str u), some (.str y), some (.str e), some (.ref l), some (.int (st : Nat)), some (.ref a), some (.ref r)] ∧ Same H1 H' ∧ H1 r = none ∧ a ≠ r ∧ H' a = some (.lst (a'.map V.bl)) ∧ H' r = some (.lst (rd.map V.bl)) ∧ Rolls (fl.take st) ((fl.drop st).take m) a' rd, fun σ' H' ⟨r, rd, e1, e2, e7, e3, e4, e5, e6⟩ => ⟨a'.length, by rw [List.length_append, List.length_singleton]; omega, r, a', rd, e1, rfl, e2, e7, e3, e4, e5, e6⟩, ?_⟩
        rw [List.map_append] at ga6 gr6
        walk_at "rd"
        refine Rd.tyL (.of ga6) ?_
        refine popRow ga6 fun H7 ga7 off7 => ?_
        have gr7 : H7 r = some (.lst (r'.map V.bl ++ [V.bl x])) := by rw [off7 r (fun q => ar q.symm)]; exact gr6
        refine ⟨Nat.le_of_ble_eq_true rfl, Rd.new fun q1 H8 nq1 gq1 s8 => ?_⟩
        walk_at "rd"
        refine Rd.slL (.of (s8 _ _ gr7)) (Rd.new fun q2 H9 nq2 gq2 s9 => ?_)
        rw [show (-1 : Int) = -1 from rfl, cut_init] at gq2
        have few2 : r'.length ≤ 5045300 := by simp only [List.length_append, List.length_singleton] at al; omega
        refine Rd.cat (s9 _ _ gq1) gq2 (by rw [List.length_singleton, List.length_map, sizeLine_eq]; omega) (Rd.new fun q3 H10 nq3 gq3 s10 => ?_)
        walk_at "rd"
        have s710 := (s8.trans s9).trans s10
        have ga10 := s710 _ _ ga7
        have sH9 : Same H1 H9 := fun c o hc => s9 _ _ (s8 _ _ (by rw [off7 c (ne_of_none hc na1)]; exact s6 _ _ hc))
        refine ⟨q3, x :: r', rfl, sH9.trans s10, sH9.free nq3, fun z => ?_, ga10, gq3, .step ro⟩
        have g3 := s9 _ _ (s8 _ _ ga7)
        rw [z, nq3] at g3
        cases g3
      · have no : ∀ a'' r'' x', a' ++ [x] = a'' ++ [x'] → r' ++ [x2] ≠ r'' ++ [x'] := fun a'' r'' x' e1 e2 => by
          have z1 := (List.append_inj' e1 rfl).2
          have z2 := (List.append_inj' e2 rfl).2
          cases z1
          cases z2
          exact q rfl
        refine ⟨false, by rw [show (x == x2) = false by simpa using q], ?_⟩
        rw [if_neg Bool.false_ne_true]
        walk_at "rd"
        refine ⟨Nat.le_of_ble_eq_true rfl, Rd.new fun p H7 np gp s7 => ?_⟩
        walk_at "rd"
        exact done no p H7 s7 gp
    · walk_at "rd"
      refine ⟨Nat.le_of_ble_eq_true rfl, Rd.new fun p H7 np gp s7 => ?_⟩
      walk_at "rd"
      exact done (fun a' r' x q => by rw [q, List.length_append] at c; simp at c) p H7 s7 gp
theorem ok_far_told (T : Txt K mg) : FnOk P w K mg base CX0 5 T.f_far_told T.fd_far_told ["book", "before", "middle", "behind", "times"] (sp_far_told K T.C_Book) := by
  refine T.F_far_told.ok sc_far_told (fun vs H Q E h => ?_) (fun cdv A outer s H vs Q E hr h => ?_)
  · obtain ⟨b, ws, u, y, e, n, rfl, _⟩ := h
    rfl
  · obtain ⟨b, ws, u, y, e, v, rfl, hB, hW, P, d1, d2, kN⟩ := h
    refine ⟨_, (pss_cons (ps_expr (pe_call (ok_check_book T) (hr.mono (by decide)) rfl T.g_check_book T.F_check_book.kp T.b_check_book .nil pass0 (pa_cons (pv 0) pa_nil)))
  (pss_cons (ps_expr (pe_call (ok_check_parts T) (hr.mono (by decide)) rfl T.g_check_parts T.F_check_parts.kp T.b_check_parts .nil pass0 (pa_cons (pv 1) (pa_cons (pv 2) (pa_cons (pv 3) pa_nil)))))
  (pss_cons (ps_if (PW.pt (pw_or (pt_not (pt_val (pe_call (ok_is_integer T) (hr.mono (by decide)) rfl T.g_is_integer T.F_is_integer.kp T.b_is_integer .nil pass0 (pa_cons (pv 4) pa_nil)))) (pw_or1 (pt_not (pt_chain op_le op_le pe_int (pv 4) (pe_glob (v := .int (10 ^ 30)) rfl T.m_MOST_TIMES ⟨_, rfl⟩))))))
  (pss_one ps_never)
  pss_nil)
  (pss_cons (ps_asg (pe_call (ok_flags_of T) (hr.mono (by decide)) rfl T.g_flags_of T.F_flags_of.kp T.b_flags_of .nil pass0 (pa_cons (pv 0) (pa_cons (pv 1) (pa_cons (pv 2) (pa_cons (pv 3) pa_nil))))) (pg_tup rfl (pgs_cons (pg_name (i := 5) sc_far_told.nd rfl (.inl rfl)) (pgs_cons (pg_name (i := 6) sc_far_told.nd rfl (.inl rfl)) pgs_nil))))
  (pss_cons (ps_if (pt_cmpR op_le (pv 4) (pe_callB (id := "len") (r := Rd.nLen K) Rd.c_len (by rfl) T.n_len (by decide +kernel) (pa_cons (pv 5) pa_nil)) (nomark _))
  (pss_one (ps_ret (pe_ix (r := rIxL K) ix_list (pv 5) (pe_op op_sub (pv 4) pe_int) (fun _ _ => rfl))))
  pss_nil)
  (pss_one (ps_ret (pe_ix (r := rIxL K) ix_list (pv 5) (pe_op op_add (pv 6) (pe_op op_mod (pe_op op_sub (pe_op op_sub (pv 4) pe_int) (pv 6)) (pe_op op_sub (pe_callB (id := "len") (r := Rd.nLen K) Rd.c_len (by rfl) T.n_len (by decide +kernel) (pa_cons (pv 5) pa_nil)) (pv 6)))) (fun _ _ => rfl))))))))), ?_⟩
    have y1 := P.y1
    walk_at "rd"
    refine ⟨b, ws, rfl, hB, ?_⟩
    walk_at "rd"
    refine ⟨u, y, e, rfl, P, fun H1 s1 => ?_⟩
    walk_at "rd"
    have hB1 : BookAt T.C_Book H1 b ws := let ⟨dx, t, hb, ht⟩ := hB; ⟨dx, t, s1 _ _ hb, s1 _ _ ht⟩
    refine ⟨v, rfl, ?_⟩
    walk_at "rd"
    refine ite2 (fun d1' => ?_) (fun d1' => absurd d1 d1')
    · walk_at "rd"
      refine ite2 (fun d2' => ?_) (fun d2' => absurd d2 d2')
      walk_at "rd"
      refine ⟨b, ws, u, y, e, rfl, hB1, hW, y1, fun t l fl st H2 s2 nl gt gl F => ?_⟩
      have stl := F.lt
      have few := F.few
      have fin : ∀ i r, fl[i]? = some r → i = (if v ≤ fl.length then (v - 1).toNat else (st + (v - 1 - st) % (fl.length - st)).toNat) → ∀ H3, Same H2 H3 → Q (.bl r) H3 := fun i r h ei H3 s3 => by
        rw [show r = _ from farF_flag F d1 (by unfold FarF; rw [← ei]; exact h)]
        exact kN H3 ((s1.trans s2).trans s3)
      walk_at "rd"
      refine Rd.tupT (.of gt) rfl ?_
      walk_at "rd"
      refine Rd.len (.inl (.of gl)) ?_
      rw [List.length_map]
      walk_at "rd"
      refine ite2 (fun c => ?_) (fun c => ?_)
      · walk_at "rd"
        have hi : (v - 1).toNat < fl.length := by omega
        refine Rd.ixL (.of gl) (Rd.atI_of (by omega) (show (fl.map V.bl)[(v - 1).toNat]? = some (.bl (fl[(v - 1).toNat]'hi)) by rw [List.getElem?_map, List.getElem?_eq_getElem hi]; rfl)) ?_
        walk_at "rd"
        exact fin _ _ (List.getElem?_eq_getElem hi) (by rw [if_pos c]) _ (Same.refl _)
      · walk_at "rd"
        refine Rd.len (.inl (.of gl)) ?_
        rw [List.length_map]
        walk_at "rd"
        refine Rd.iC (by omega) ?_
        walk_at "rd"
        have m0 : 0 ≤ (v - 1 - (st : Int)) % ((fl.length : Int) - (st : Int)) := Int.emod_nonneg _ (by omega)
        have m1 : (v - 1 - (st : Int)) % ((fl.length : Int) - (st : Int)) < (fl.length : Int) - (st : Int) := Int.emod_lt_of_pos _ (by omega)
        generalize ej : (v - 1 - (st : Int)) % ((fl.length : Int) - (st : Int)) = j at m0 m1
        have hi : ((st : Int) + j).toNat < fl.length := by omega
        refine Rd.ixL (.of gl) (Rd.atI_of (by omega) (show (fl.map V.bl)[((st : Int) + j).toNat]? = some (.bl (fl[((st : Int) + j).toNat]'hi)) by rw [List.getElem?_map, List.getElem?_eq_getElem hi]; rfl)) ?_
        walk_at "rd"
        exact fin _ _ (List.getElem?_eq_getElem hi) (by rw [if_neg c, ej]) _ (Same.refl _)

end
end W

namespace W
open PySem PySem.Spec PyProof.Rows L2
section
variable {P : Program} {w : World} {K : PySem.W.Frag} {mg : Str → Option Value} {base : Heap}
/-! ### texts many times; the word that stands for a number -/
theorem fold_app : ∀ (l : List (Array Nat)) (a : Array Nat), (l.foldl (· ++ ·) a).toList = a.toList ++ (l.map Array.toList).flatten
  | [], a => by simp
  | x :: l, a => by rw [List.foldl_cons, fold_app l, Array.toList_append, List.map_cons, List.flatten_cons, List.append_assoc]
theorem sg_mul (y : Str) (n : Nat) : sg (Txt.mul y (n : Int)) = Mfc.rep n (sg y) := by
  unfold Txt.mul Mfc.rep
  split
  · rw [show n = 0 by omega]
    rfl
  · split
    · rename_i h1 h2
      rcases (Bool.or_eq_true _ _).mp h2 with e | e
      · rw [show n = 1 by have : (n : Int) = 1 := by simpa using e
                          omega]
        simp
      · have e' : y.length = 0 := by simpa using e
        have e3 : sg y = [] := List.length_eq_zero_iff.mp (by rw [sg_len]; exact e')
        rw [e3]
        simp
    · show ((List.replicate (n : Int).toNat y.cps).foldl (· ++ ·) #[]).toList = _
      rw [fold_app, Int.toNat_natCast, List.map_replicate]
      rfl
theorem mul_len (y : Str) (n : Nat) : (Txt.mul y (n : Int)).length = n * y.length := by
  rw [← sg_len, sg_mul, Mfc.rep_len, sg_len]
theorem mul_let {y : Str} (h : Lt.Let y) (n : Nat) : Lt.Let (Txt.mul y (n : Int)) := fun c m => by
  have : c ∈ Mfc.rep n (sg y) := by rw [← sg_mul]; exact m
  unfold Mfc.rep at this
  obtain ⟨l, hl, hc⟩ := List.mem_flatten.mp this
  rw [(List.mem_replicate.mp hl).2] at hc
  exact h c hc
theorem mulOk {y : Str} {n : Nat} (h : y.length ≤ 1000) (hn : n ≤ 1000) : MulOk y (n : Int) := by
  refine ⟨?_, fun h1 _ q => ?_, fun _ _ => ?_⟩
  · rw [Bool.or_eq_false_iff]
    exact ⟨decide_eq_false (by omega), decide_eq_false (by omega)⟩
  · have : (y.length : Int) ≤ (2 ^ 63 - 1) / (n : Int) := by
      rw [Int.le_ediv_iff_mul_le (by omega)]
      have : y.length * n ≤ 1000 * 1000 := Nat.mul_le_mul h hn
      have e : ((y.length : Int) * (n : Int)) = ((y.length * n : Nat) : Int) := by rw [Int.natCast_mul]
      rw [e]
      omega
    omega
  · have : y.length * n ≤ 1000 * 1000 := Nat.mul_le_mul h hn
    show decide (y.length * (n : Int).toNat > sizeLine) = false
    rw [Int.toNat_natCast]
    exact decide_eq_false (by rw [sizeLine_eq]; omega)
/-- the word that stands for a number -/
theorem far_word (u y e : Str) (n : Nat) : sg (u ++ Txt.mul y (n : Int) ++ e) = sg u ++ Mfc.rep n (sg y) ++ sg e := by
  have a : ∀ x z : Str, sg (x ++ z) = sg x ++ sg z := fun x z => Array.toList_append
  rw [a, a, sg_mul]
theorem str_ext {a b : Str} (h : a.cps.toList = b.cps.toList) : a = b := by
  obtain ⟨⟨x⟩⟩ := a
  obtain ⟨⟨y⟩⟩ := b
  cases (show x = y from h)
  rfl
theorem occ_iff {W z : Str} {s : Nat} : Mw.Occ W z s ↔ ∃ a b, z.cps.toList = a ++ W.cps.toList ++ b ∧ a.length = s := by
  have zl : z.cps.toList.length = z.length := Array.length_toList
  have wl : W.cps.toList.length = W.length := Array.length_toList
  have key : s + W.length ≤ z.length → (cutS z (some (s : Int)) (some ((s : Int) + (W.length : Int)))).cps.toList = (z.cps.toList.drop s).take W.length := fun h => by
    show ((((z.cps.toList.drop (HT.sIx z.length 0 (some (s : Int)))).take (HT.sIx z.length z.length (some ((s : Int) + (W.length : Int))) - HT.sIx z.length 0 (some (s : Int)))).toArray).toList) = _
    rw [show (s : Int) + (W.length : Int) = ((s + W.length : Nat) : Int) by omega, HT.sIx_nat, HT.sIx_nat, show min s z.length = s by omega, show min (s + W.length) z.length = s + W.length by omega, show s + W.length - s = W.length by omega]
  constructor
  · rintro ⟨h, e⟩
    have e' := congrArg (fun x : Str => x.cps.toList) e
    have e' := (key h).symm.trans e'
    refine ⟨z.cps.toList.take s, z.cps.toList.drop (s + W.length), ?_, by rw [List.length_take]; omega⟩
    rw [show W.cps.toList = (z.cps.toList.drop s).take W.length from e'.symm, List.append_assoc, ← List.drop_drop, List.take_append_drop, List.take_append_drop]
  · rintro ⟨a, b, e, rfl⟩
    have h : a.length + W.length ≤ z.length := by
      rw [← zl, e, List.length_append, List.length_append, wl]
      omega
    refine ⟨h, str_ext ?_⟩
    rw [key h, e, List.append_assoc, List.drop_left, ← wl, List.take_left]
theorem cn_told {ws : List Str} {z : Str} : Mw.Told ws z ↔ Mfb.Cn (Wss ws) (sg z) 0 (sg z).length := by
  unfold Mw.Told Mfb.Cn
  rw [sg_len]
  have oc : ∀ (W : Str) (s : Nat), Mw.Occ W z s ↔ Mfb.Oc (sg W) (sg z) s := fun W s => occ_iff
  refine Mw.Star.iff fun i j => ?_
  unfold Mw.Adj Mw.Edge Mfb.Ed
  constructor
  · rintro ⟨W, m, h⟩
    refine ⟨sg W, List.mem_map_of_mem m, ?_⟩
    rw [sg_len, ← oc, ← oc]
    exact h.imp And.symm And.symm
  · rintro ⟨W, m, h⟩
    obtain ⟨V, mv, rfl⟩ := List.mem_map.mp m
    refine ⟨V, mv, ?_⟩
    rw [sg_len, ← oc, ← oc] at h
    exact h.imp And.symm And.symm
theorem flag_told {ws : List Str} (hW : ∀ W ∈ ws, 1 ≤ W.length ∧ W.length ≤ 12) (u y e : Str) (n : Nat) (n1 : 1 ≤ n) : Mfd.flag (Wss ws) (sg u) (sg y) (sg e) (n - 1) = true ↔ Mw.Told ws (u ++ Txt.mul y (n : Int) ++ e) := by
  rw [Mfd.flag_iff (wss_ok hW), cn_told, far_word, show n - 1 + 1 = n by omega]

end
end W

namespace W
open PySem PySem.Spec PyProof.Rows L2
section
variable {P : Program} {w : World} {K : PySem.W.Frag} {mg : Str → Option Value} {base : Heap}
/-! ### the greatest common divisor -/
def sp_common (K : PySem.W.Frag) : Sp := fun vs H Q _ => ∃ a b : Int, vs = [.int a, .int b] ∧ Q (.int (Nat.gcd a.natAbs b.natAbs : Nat)) H
theorem ok_common (T : Txt K mg) : FnOk P w K mg base CX0 1 T.f_common T.fd_common ["one", "other"] (sp_common K) := by
  refine T.F_common.ok sc_common (fun vs H Q E h => ?_) (fun cdv A outer s H vs Q E hr h => ?_)
  · obtain ⟨a, b, rfl, _⟩ := h
    rfl
  · obtain ⟨a, b, rfl, k⟩ := h
    refine ⟨_, (pss_cons (ps_set (i := 0) sc_common.nd rfl (.inl rfl) (pe_callB (id := "abs") (r := _) Rd.c_abs (by rfl) T.n_abs (by decide +kernel) (pa_cons (pv 0) pa_nil)))
  (pss_cons (ps_set (i := 1) sc_common.nd rfl (.inl rfl) (pe_callB (id := "abs") (r := _) Rd.c_abs (by rfl) T.n_abs (by decide +kernel) (pa_cons (pv 1) pa_nil)))
  (pss_cons (ps_while PassesOwn.never (pt_cmpR op_gt (pv 1) pe_int (nomark _))
  (pss_one (ps_par (i := 0) (j := 1) rfl sc_common.nd rfl rfl (by decide) rfl rfl (pa_cons (pv 1) (pa_cons (pe_op op_mod (pv 0) (pv 1)) pa_nil)) (by rfl))))
  (pss_one (ps_ret (pv 0)))))), ?_⟩
    walk_at "rd"
    refine Rd.whl (fun m σ H' => ∃ x : Nat, σ = [some (.int x), some (.int m)] ∧ Nat.gcd x m = Nat.gcd a.natAbs b.natAbs ∧ H' = H) ⟨b.natAbs, a.natAbs, rfl, rfl, rfl⟩ ?_
    rintro m _ _ ⟨x, rfl, e, rfl⟩
    walk_at "rd"
    refine ite2 (fun c => ?_) (fun c => ?_)
    · refine Rd.whN ?_
      walk_at "rd"
      refine Rd.iC c ?_
      walk_at "rd"
      have hm : 0 < m := by omega
      refine ⟨x % m, Nat.mod_lt _ hm, m, ?_, ?_, rfl⟩
      · rw [Int.natCast_emod]
        rfl
      · rw [← e, Nat.gcd_comm x m, Nat.gcd_rec m x, Nat.gcd_comm]
    · have hm : m = 0 := by omega
      subst hm
      walk_at "rd"
      rw [Nat.gcd_zero_right] at e
      rw [e]
      exact k

end
end W

namespace W
open PySem PySem.Spec PyProof.Rows L2
section
variable {P : Program} {w : World} {K : PySem.W.Frag} {mg : Str → Option Value} {base : Heap}
/-! ### lengths, their common divisor, what they reach -/
structure Lens (ns : List Int) : Prop where
  l0 : 1 ≤ ns.length
  l1 : ns.length ≤ 8
  all : ∀ n ∈ ns, 1 ≤ n ∧ n ≤ 60
def sp_divisor_of (K : PySem.W.Frag) : Sp := fun vs H Q _ => ∃ (a : Addr) (ns : List Int), vs = [.ref a] ∧ Ru.SqR K H a (ns.map V.int) ∧ ∀ H', Same H H' → Q (.int (M85.gcdL ns : Nat)) H'
theorem ok_divisor_of (T : Txt K mg) : FnOk P w K mg base CX0 2 T.f_divisor_of T.fd_divisor_of ["lengths"] (sp_divisor_of K) := by
  refine T.F_divisor_of.ok sc_divisor_of (fun vs H Q E h => ?_) (fun cdv A outer s H vs Q E hr h => ?_)
  · obtain ⟨a, ns, rfl, _⟩ := h
    rfl
  · obtain ⟨a, ns, rfl, hS, k⟩ := h
    refine ⟨_, (pss_cons (ps_set (i := 1) sc_divisor_of.nd rfl (.inl rfl) pe_int)
  (pss_cons (ps_for PassesOwn.never rfl (Ru.pi_or (pi_list (pv 0)) (pi_tup (pv 0))) (pg_name (i := 2) sc_divisor_of.nd rfl (.inl rfl))
  (pss_one (ps_set (i := 1) sc_divisor_of.nd rfl (.inl rfl) (pe_call (ok_common T) (hr.mono (by decide)) rfl T.g_common T.F_common.kp T.b_common .nil pass0 (pa_cons (pv 2) (pa_cons (pv 1) pa_nil))))))
  (pss_one (ps_ret (pv 1))))), ?_⟩
    walk_at "rd"
    refine Ru.for_row (a := a) (xs := ns.map V.int) (fun Q q => ?_) (fun i σ H' => ∃ x, σ = [some (.ref a), some (.int ((ns.take i).foldl (fun g l => Nat.gcd l.natAbs g) 0 : Nat)), x] ∧ Same H H') hS ⟨_, rfl, Same.refl _⟩ (fun i σ H' _ ⟨_, _, z⟩ => z) ?_ ?_
    · walk_at "rd"
      exact q
    · rintro i x _ H' hx ⟨_, rfl, sm⟩
      obtain ⟨n, hn, rfl⟩ := Rd.map_get hx
      walk_at "rd"
      refine ⟨_, _, rfl, ?_⟩
      walk_at "rd"
      refine ⟨some (.int n), ?_, sm⟩
      rw [Rd.take_snoc hn, List.foldl_append]
      rfl
    · rintro _ H' ⟨_, rfl, sm⟩
      rw [List.length_map, List.take_length]
      walk_at "rd"
      exact k _ sm
def sp_far_from (K : PySem.W.Frag) : Sp := fun vs H Q _ => ∃ (a : Addr) (ns : List Int), vs = [.ref a] ∧ Ru.SqR K H a (ns.map V.int) ∧ Lens ns ∧
  ∀ H' r, Same H H' → 0 ≤ r → r ≤ 120 → (∀ n, r ≤ n → ns.Pairwise fun x y => x + y ≤ n) → Q (.int r) H'
def sp_steps_reach (K : PySem.W.Frag) : Sp := fun vs H Q _ => ∃ (a : Addr) (ns : List Int) (last : Int), vs = [.ref a, .int last] ∧ Ru.SqR K H a (ns.map V.int) ∧ 0 ≤ last ∧ last ≤ 1000000 ∧
  ∀ H' b, Same H H' → (b = true ↔ M85.Reach ns last last) → Q (.bl b) H'
theorem ok_far_from (T : Txt K mg) : FnOk P w K mg base CX0 1 T.f_far_from T.fd_far_from ["lengths"] (sp_far_from K) := by
  refine T.F_far_from.ok sc_far_from (fun vs H Q E h => ?_) (fun cdv A outer s H vs Q E hr h => ?_)
  · obtain ⟨a, ns, rfl, _⟩ := h
    rfl
  · obtain ⟨a, ns, rfl, hS, L, k⟩ := h
    refine ⟨_, (pss_one (ps_ret (pe_ifExp (pt_cmpR op_gt (pe_callB (id := "len") (r := Rd.nLen K) Rd.c_len (by rfl) T.n_len (by decide +kernel) (pa_cons (pv 0) pa_nil)) pe_int (nomark _)) (pe_callB (id := "sum") (r := rSum K) (cr_sum rfl) (by rfl) T.n_sum (by decide +kernel) (pa_cons (pe_slice (r := rSlL K) sl_list (pe_callB (id := "sorted") (r := _) (Ru.callR_or cr_sortedI Ru.cr_sortedTup) (by rfl) T.n_sorted (by decide +kernel) (pa_cons (pv 0) pa_nil)) (po_some (pe_un un_neg pe_int)) po_none) pa_nil)) pe_int))), ?_⟩
    walk_at "rd"
    refine Rd.len hS ?_
    rw [List.length_map]
    walk_at "rd"
    refine ite2 (fun c => ?_) (fun c => ?_)
    · walk_at "rd"
      refine Ru.sortedR hS fun ms p G hp hs gp sG np => ?_
      walk_at "rd"
      have hl : 2 ≤ ms.length := by rw [hp.length_eq]; omega
      obtain ⟨st, b, x, rfl⟩ := Rd.last2 hl
      refine Rd.slL (.of gp) (Rd.new fun p2 G2 np2 gp2 sG2 => ?_)
      rw [Rd.cut_last2] at gp2
      walk_at "rd"
      refine Rd.sum (.of gp2) ?_
      have hb : b ∈ ns := hp.mem_iff.mp (by simp)
      have hx : x ∈ ns := hp.mem_iff.mp (by simp)
      have b1 := L.all b hb
      have x1 := L.all x hx
      have e : [b, x].sum = b + x := by simp
      rw [e]
      exact k _ _ (sG.trans sG2) (by omega) (by omega) fun n hn => M85.pairs_of_sorted hp hs hn
    · walk_at "rd"
      refine k _ _ (Same.refl H) (by omega) (by omega) fun n hn => ?_
      match ns, c, L.l0 with
      | [z], _, _ => exact List.pairwise_singleton _ _
      | [], _, q => exact absurd q (by decide)
      | _ :: _ :: _, c, _ => exact absurd c (by simp; omega)
theorem ok_steps_reach (T : Txt K mg) : FnOk P w K mg base CX0 1 T.f_steps_reach T.fd_steps_reach ["lengths", "last"] (sp_steps_reach K) := by
  refine T.F_steps_reach.ok sc_steps_reach (fun vs H Q E h => ?_) (fun cdv A outer s H vs Q E hr h => ?_)
  · obtain ⟨a, ns, last, rfl, _⟩ := h
    rfl
  · obtain ⟨a, ns, last, rfl, hS, l0, l1, k⟩ := h
    refine ⟨_, (pss_cons (ps_set (i := 2) sc_steps_reach.nd rfl (.inl rfl) (pe_op op_rep (pe_lst (pa_cons pe_bl pa_nil)) (pe_op op_add (pv 1) pe_int)))
  (pss_cons (ps_asg pe_bl (pg_sub (pv 2) pe_int set_list))
  (pss_cons (ps_set (i := 3) sc_steps_reach.nd rfl (.inl rfl) (pe_lst (pa_cons pe_int pa_nil)))
  (pss_cons (ps_set (i := 4) sc_steps_reach.nd rfl (.inl rfl) pe_int)
  (pss_cons (ps_while PassesOwn.never (pt_cmpR op_lt (pv 4) (pe_callB (id := "len") (r := Rd.nLen K) Rd.c_len (by rfl) T.n_len (by decide +kernel) (pa_cons (pv 3) pa_nil)) (nomark _))
  (pss_cons (ps_for PassesOwn.never rfl (Ru.pi_or (pi_list (pv 0)) (pi_tup (pv 0))) (pg_name (i := 5) sc_steps_reach.nd rfl (.inl rfl))
  (pss_one (ps_for PassesOwn.never rfl (pi_tup (pe_tup (pa_cons (pe_op op_sub (pe_ix (r := rIxL K) ix_list (pv 3) (pv 4) (fun _ _ => rfl)) (pv 5)) (pa_cons (pe_op op_add (pe_ix (r := rIxL K) ix_list (pv 3) (pv 4) (fun _ _ => rfl)) (pv 5)) pa_nil)))) (pg_name (i := 6) sc_steps_reach.nd rfl (.inl rfl))
  (pss_one (ps_if (PW.pt (pw_and (pt_chain op_le op_le pe_int (pv 6) (pv 1)) (pw_and1 (pt_not (pt_val (pe_ix (r := rIxL K) ix_list (pv 2) (pv 6) (fun _ _ => rfl)))))))
  (pss_cons (ps_asg pe_bl (pg_sub (pv 2) (pv 6) set_list))
  (pss_one (ps_expr (pe_bm PySem.F.plainAttrs_list PySem.F.slot_list_append PySem.F.type_list_append mt_append (pv 3) (pa_cons (pv 6) pa_nil)))))
  pss_nil)))))
  (pss_one (ps_aug (i := 4) sc_steps_reach.nd rfl (.inl rfl) pe_int ip_add))))
  (pss_one (ps_ret (pe_ix (r := rIxL K) ix_list (pv 2) (pv 1) (fun _ _ => rfl))))))))), ?_⟩
    walk_at "rd"
    refine ⟨Nat.le_of_ble_eq_true rfl, Rd.new fun p0 G0 np0 gp0 sG0 => ?_⟩
    walk_at "rd"
    have et : (last + 1).toNat = last.toNat + 1 := by omega
    refine Rd.rep gp0 (by omega) (by omega) (by rw [et, sizeLine_eq]; show 1 * _ ≤ _; omega) (Rd.new fun m G1 npm gpm sG1 => ?_)
    rw [Rd.rep_map, et] at gpm
    walk_at "rd"
    refine Rd.setG gpm (show ixN ((List.replicate (last.toNat + 1) false).map V.bl).length 0 = some 0 from Rd.ixN_of (by decide) (by simp; omega)) (Rd.map_set V.bl _ _ _) fun G2 g2 gb2 => ?_
    walk_at "rd"
    refine ⟨Nat.le_of_ble_eq_true rfl, Rd.new fun f G3 npf gpf sG3 => ?_⟩
    walk_at "rd"
    have nm : H m = none := (sG0.free npm)
    have s2 : Same H G2 := fun b o e => by rw [gb2 b (ne_of_none e nm)]; exact sG1 _ _ (sG0 _ _ e)
    have nf : H f = none := s2.free npf
    have mf : m ≠ f := ne_of_none g2 npf
    have s3 : Same H G3 := s2.trans sG3
    have gm3 := sG3 _ _ g2
    have gf3 : G3 f = some (.lst (([0] : List Int).map V.int)) := gpf
    refine Rd.whl (fun mu σ H' => ∃ (n : Nat) (met : List Bool) (found : List Int) (o1 o2 : Option V), σ = [some (.ref a), some (.int last), some (.ref m), some (.ref f), some (.int n), o1, o2] ∧ Same H H' ∧ H' m = some (.lst (met.map V.bl)) ∧ H' f = some (.lst (found.map V.int)) ∧
      M85.Good ns last met found ∧ M85.Closed ns last found n ∧ n ≤ found.length ∧ mu = last.toNat + 1 - n)
      ⟨_, 0, _, [0], none, none, rfl, s3, gm3, gf3, M85.Good.start l0, M85.Closed.zero, Nat.zero_le _, rfl⟩ ?_
    rintro mu _ H' ⟨n, met, found, o1, o2, rfl, sm, hm, hf, good, cl, nl, rfl⟩
    walk_at "rd"
    refine Rd.len (.inl (.of hf)) ?_
    rw [List.length_map]
    walk_at "rd"
    refine ite2 (fun c => ?_) (fun c => ?_)
    · -- a turn
      have c' : n < found.length := by omega
      have fl := good.le
      refine Rd.whN ?_
      walk_at "rd"
      obtain ⟨x, hx⟩ : ∃ x, found[n]? = some x := ⟨_, List.getElem?_eq_getElem c'⟩
      have xr := good.reach x (List.mem_of_getElem? hx)
      refine Ru.for_row (a := a) (xs := ns.map V.int) (fun Q q => ?_) (fun i σ H' => ∃ (met : List Bool) (found : List Int) (o1 o2 : Option V), σ = [some (.ref a), some (.int last), some (.ref m), some (.ref f), some (.int n), o1, o2] ∧ Same H H' ∧ H' m = some (.lst (met.map V.bl)) ∧ H' f = some (.lst (found.map V.int)) ∧
        M85.Good ns last met found ∧ M85.Closed ns last found n ∧ n < found.length ∧ found[n]? = some x ∧ M85.Near (ns.take i) last found x) hS
        ⟨met, found, o1, o2, rfl, sm, hm, hf, good, cl, c', hx, M85.Near.nil⟩ (fun i σ H' _ ⟨_, _, _, _, _, z, _⟩ => z) ?_ ?_
      · walk_at "rd"
        exact q
      · -- a length
        rintro i y _ H' hy ⟨met, found, o1, o2, rfl, sm, hm, hf, good, cl, c', hx, near⟩
        obtain ⟨l, hl, rfl⟩ := Rd.map_get hy
        have lm := List.mem_of_getElem? hl
        walk_at "rd"
        refine Rd.forS ?_
        walk_at "rd"
        have hx' : (found.map V.int)[n]? = some (.int x) := by rw [List.getElem?_map, hx]; rfl
        refine Rd.ixL (.of hf) (atI_nat hx') ?_
        walk_at "rd"
        refine Rd.ixL (.of hf) (atI_nat hx') ?_
        walk_at "rd"
        refine ⟨Nat.le_of_ble_eq_true rfl, Rd.new fun tp G4 np4 gp4 sG4 => ?_⟩
        walk_at "rd"
        have tm : tp ≠ m := (ne_of_none hm np4).symm
        have tf : tp ≠ f := (ne_of_none hf np4).symm
        refine ⟨⟨_, .of gp4⟩, for_tup (K := K) (a := tp) (xs := [.int (x - l), .int (x + l)]) (fun j σ H' => ∃ (met : List Bool) (found : List Int) (o2 : Option V), σ = [some (.ref a), some (.int last), some (.ref m), some (.ref f), some (.int n), some (.int l), o2] ∧ Same H H' ∧ H' tp = some (.tup [.int (x - l), .int (x + l)]) ∧ H' m = some (.lst (met.map V.bl)) ∧ H' f = some (.lst (found.map V.int)) ∧
          M85.Good ns last met found ∧ M85.Closed ns last found n ∧ n < found.length ∧ found[n]? = some x ∧ M85.Near (ns.take i) last found x ∧ (1 ≤ j → 0 ≤ x - l → x - l ≤ last → x - l ∈ found) ∧ (2 ≤ j → 0 ≤ x + l → x + l ≤ last → x + l ∈ found))
          ⟨met, found, o2, rfl, sm.trans sG4, gp4, sG4 _ _ hm, sG4 _ _ hf, good, cl, c', hx, near, fun z => absurd z (by decide), fun z => absurd z (by decide)⟩ (fun j σ H' _ ⟨_, _, _, _, _, z, _⟩ => .of z) ?_ ?_⟩
        · -- a spot
          rintro j z _ H' hz ⟨met, found, o2, rfl, sm, ht, hm, hf, good, cl, c', hx, near, n1, n2⟩
          obtain ⟨t, rfl, et, ej⟩ : ∃ t, z = V.int t ∧ (t = x + l ∨ t = x - l) ∧ ((j = 0 ∧ t = x - l) ∨ (j = 1 ∧ t = x + l)) := by
            match j, hz with
            | 0, hz => cases hz; exact ⟨_, rfl, .inr rfl, .inl ⟨rfl, rfl⟩⟩
            | 1, hz => cases hz; exact ⟨_, rfl, .inl rfl, .inr ⟨rfl, rfl⟩⟩
            | j + 2, hz => simp at hz
          -- what is found when the spot is passed over or put in
          have fin : ∀ (met' : List Bool) (found' : List Int) (H2 : Hp), Same H H2 → H2 tp = some (.tup [.int (x - l), .int (x + l)]) → H2 m = some (.lst (met'.map V.bl)) → H2 f = some (.lst (found'.map V.int)) → M85.Good ns last met' found' → (found' = found ∨ found' = found ++ [t]) → (0 ≤ t → t ≤ last → t ∈ found') →
              ∃ (met : List Bool) (found : List Int) (o2 : Option V), [some (V.ref a), some (.int last), some (.ref m), some (.ref f), some (.int n), some (.int l), some (.int t)] = [some (.ref a), some (.int last), some (.ref m), some (.ref f), some (.int n), some (.int l), o2] ∧ Same H H2 ∧ H2 tp = some (.tup [.int (x - l), .int (x + l)]) ∧ H2 m = some (.lst (met.map V.bl)) ∧ H2 f = some (.lst (found.map V.int)) ∧
                M85.Good ns last met found ∧ M85.Closed ns last found n ∧ n < found.length ∧ found[n]? = some x ∧ M85.Near (ns.take i) last found x ∧ (1 ≤ j + 1 → 0 ≤ x - l → x - l ≤ last → x - l ∈ found) ∧ (2 ≤ j + 1 → 0 ≤ x + l → x + l ≤ last → x + l ∈ found) := by
            intro met' found' H2 sm2 ht2 hm2 hf2 g2 ef hin
            refine ⟨met', found', _, rfl, sm2, ht2, hm2, hf2, g2, ?_⟩
            rcases ef with rfl | rfl
            · refine ⟨cl, c', hx, near, fun _ => ?_, fun q => ?_⟩
              · rcases ej with ⟨rfl, rfl⟩ | ⟨rfl, rfl⟩
                · exact hin
                · exact n1 (by omega)
              · rcases ej with ⟨rfl, rfl⟩ | ⟨rfl, rfl⟩
                · omega
                · exact hin
            · refine ⟨cl.more (by omega) _, by rw [List.length_append]; omega, by rw [List.getElem?_append_left c']; exact hx, near.more _, fun _ => ?_, fun q => ?_⟩
              · rcases ej with ⟨rfl, rfl⟩ | ⟨rfl, rfl⟩
                · exact hin
                · exact fun p0 p1 => List.mem_append_left _ (n1 (by omega) p0 p1)
              · rcases ej with ⟨rfl, rfl⟩ | ⟨rfl, rfl⟩
                · omega
                · exact hin
          walk_at "rd"
          refine ite2 (fun p0 => ?_) (fun p0 => ?_)
          · walk_at "rd"
            refine ite2 (fun p1 => ?_) (fun p1 => ?_)
            · obtain ⟨b, hb, hbi⟩ := good.at p0 p1
              walk_at "rd"
              refine Rd.ixL (.of hm) (Rd.atI_of p0 (show (met.map V.bl)[t.toNat]? = some (.bl b) by rw [List.getElem?_map, hb]; rfl)) ?_
              walk_at "rd"
              cases b with
              | true =>
                walk_at "rd"
                exact fin met found H' sm ht hm hf good (.inl rfl) fun _ _ => hbi.mp rfl
              | false =>
                walk_at "rd"
                have ml := good.len
                refine Rd.setG hm (Rd.ixN_of p0 (by rw [List.length_map]; omega)) (Rd.map_set V.bl _ _ _) fun G5 g5 gb5 => ?_
                walk_at "rd"
                have hf5 : G5 f = some (.lst (found.map V.int)) := by rw [gb5 f mf.symm]; exact hf
                have fl := good.le
                refine Rd.tyL (.of hf5) ?_
                walk_at "rd"
                refine Rd.app hf5 (by rw [List.length_map, sizeLine_eq]; omega) fun G6 g6 gb6 => ?_
                walk_at "rd"
                have nw : M85.Reach ns last t := .step xr lm et p0 p1
                refine fin (met.set t.toNat true) (found ++ [t]) G6 (fun b o e => ?_) ?_ ?_ ?_ (good.visit p0 p1 hb nw) (.inr rfl) fun _ _ => List.mem_append_right _ List.mem_cons_self
                · rw [gb6 b (ne_of_none e nf), gb5 b (ne_of_none e nm)]
                  exact sm _ _ e
                · rw [gb6 tp tf, gb5 tp tm]
                  exact ht
                · rw [gb6 m mf]
                  exact g5
                · rw [List.map_append]
                  exact g6
            · walk_at "rd"
              exact fin met found H' sm ht hm hf good (.inl rfl) fun _ q => absurd q p1
          · walk_at "rd"
            exact fin met found H' sm ht hm hf good (.inl rfl) fun q _ => absurd q p0
        · -- both spots are met
          rintro _ H' ⟨met, found, o2, rfl, sm, ht, hm, hf, good, cl, c', hx, near, n1, n2⟩
          refine ⟨met, found, _, _, rfl, sm, hm, hf, good, cl, c', hx, ?_⟩
          rw [Rd.take_snoc hl]
          exact near.snoc (n2 (Nat.le_refl _)) (n1 (by simp))
      · -- all lengths
        rintro _ H' ⟨met, found, o1, o2, rfl, sm, hm, hf, good, cl, c', hx, near⟩
        rw [List.length_map, List.take_length] at near
        walk_at "rd"
        exact ⟨last.toNat + 1 - (n + 1), by omega, n + 1, met, found, o1, o2, rfl, sm, hm, hf, good, cl.succ hx near, c', rfl⟩
    · -- the end
      have c' : found.length ≤ n := by omega
      walk_at "rd"
      obtain ⟨b, hb, hbi⟩ := good.end cl c'
      refine Rd.ixL (.of hm) (Rd.atI_of l0 (show (met.map V.bl)[last.toNat]? = some (.bl b) by rw [List.getElem?_map, hb]; rfl)) ?_
      walk_at "rd"
      exact k _ _ sm hbi
theorem gcdL_pos {ns : List Int} (L : Lens ns) : 0 < M85.gcdL ns ∧ (M85.gcdL ns : Int) ≤ 60 := by
  obtain ⟨n, hn⟩ : ∃ n, n ∈ ns := by
    match ns, L.l0 with
    | n :: _, _ => exact ⟨n, List.mem_cons_self⟩
  have r := L.all n hn
  have d := M85.gcdL_dvd hn
  have h1 : (M85.gcdL ns : Int) ≤ n := Int.le_of_dvd (by omega) d
  refine ⟨Nat.pos_of_ne_zero fun z => ?_, by omega⟩
  rw [z] at d
  have := Int.zero_dvd.mp d
  omega
def sp_is_reached (K : PySem.W.Frag) : Sp := fun vs H Q _ => ∃ (a : Addr) (ns : List Int) (last : Int), vs = [.ref a, .int last] ∧ Ru.SqR K H a (ns.map V.int) ∧ Lens ns ∧ 0 ≤ last ∧
  ∀ H' b, Same H H' → (b = true ↔ M85.Reach ns last last) → Q (.bl b) H'
def sp_l_common (K : PySem.W.Frag) : Sp := fun vs H Q _ => ∃ a b : Int, vs = [.int a, .int b] ∧ 0 ≤ a ∧ 0 ≤ b ∧ b ≤ 90 ∧ Q (.int (Nat.gcd a.natAbs b.natAbs : Nat)) H
def sp_l_divisor (K : PySem.W.Frag) : Sp := fun vs H Q _ => ∃ (a : Addr) (ns : List Int), vs = [.ref a] ∧ SqL K H a (ns.map V.int) ∧ (∀ n ∈ ns, 1 ≤ n ∧ n ≤ 60) ∧ ∀ H', Same H H' → Q (.int (M85.gcdL ns : Nat)) H'
theorem ok_is_reached (T : Txt K mg) : FnOk P w K mg base CX0 3 T.f_is_reached T.fd_is_reached ["lengths", "last"] (sp_is_reached K) := by
  refine T.F_is_reached.ok sc_is_reached (fun vs H Q E h => ?_) (fun cdv A outer s H vs Q E hr h => ?_)
  · obtain ⟨a, ns, last, rfl, _⟩ := h
    rfl
  · obtain ⟨a, ns, last, rfl, hS, L, l0, k⟩ := h
    refine ⟨_, (pss_cons (ps_if (pt_cmpR op_lt (pv 1) (pe_call (ok_far_from T) (hr.mono (by decide)) rfl T.g_far_from T.F_far_from.kp T.b_far_from .nil pass0 (pa_cons (pv 0) pa_nil)) (nomark _))
  (pss_one (ps_ret (pe_call (ok_steps_reach T) (hr.mono (by decide)) rfl T.g_steps_reach T.F_steps_reach.kp T.b_steps_reach .nil pass0 (pa_cons (pv 0) (pa_cons (pv 1) pa_nil)))))
  pss_nil)
  (pss_one (ps_ret (pe_cmpR op_eq (pe_op op_mod (pv 1) (pe_call (ok_divisor_of T) (hr.mono (by decide)) rfl T.g_divisor_of T.F_divisor_of.kp T.b_divisor_of .nil pass0 (pa_cons (pv 0) pa_nil))) pe_int (nomark _))))), ?_⟩
    walk_at "rd"
    refine ⟨a, ns, rfl, hS, L, fun H1 r s1 r0 r1 hp => ?_⟩
    walk_at "rd"
    refine ite2 (fun c => ?_) (fun c => ?_)
    · walk_at "rd"
      exact ⟨a, ns, last, rfl, hS.same s1, l0, by omega, fun H2 b s2 hb => k _ b (s1.trans s2) hb⟩
    · walk_at "rd"
      refine ⟨a, ns, rfl, hS.same s1, fun H2 s2 => ?_⟩
      walk_at "rd"
      have g0 := gcdL_pos L
      refine Rd.iC (by omega) ?_
      walk_at "rd"
      refine k _ _ (s1.trans s2) ?_
      rw [decide_eq_true_iff, M85.reach_iff l0 (fun l hl => by have := L.all l hl; omega) (hp last (by omega))]
      exact ⟨fun h => Int.dvd_of_emod_eq_zero h, fun h => Int.emod_eq_zero_of_dvd h⟩
theorem ok_l_common (T : Txt K mg) : FnOk P w K mg base CX0 1 T.f_l_common T.fd_l_common ["_law_one", "_law_other"] (sp_l_common K) := by
  refine T.F_l_common.ok sc_l_common (fun vs H Q E h => ?_) (fun cdv A outer s H vs Q E hr h => ?_)
  · obtain ⟨a, b, rfl, _⟩ := h
    rfl
  · obtain ⟨a, b, rfl, a0, b0, b1, k⟩ := h
    refine ⟨_, (pss_cons (ps_for PassesOwn.never rfl (pi_range1 rfl T.n_range (pa_cons pe_int pa_nil)) (pg_name (i := 2) sc_l_common.nd rfl (.inl rfl))
  (pss_cons (ps_if (pt_cmpR op_eq (pv 1) pe_int (nomark _))
  (pss_one (ps_ret (pv 0)))
  pss_nil)
  (pss_cons (ps_set (i := 3) sc_l_common.nd rfl (.inl rfl) (pe_op op_mod (pe_callTy (T := "int") (r := _) Rd.c_int (by rfl) T.n_int (by decide +kernel) (pa_cons (pv 0) pa_nil)) (pv 1)))
  (pss_cons (ps_set (i := 0) sc_l_common.nd rfl (.inl rfl) (pv 1))
  (pss_one (ps_set (i := 1) sc_l_common.nd rfl (.inl rfl) (pv 3)))))))
  (pss_one (ps_ret (pv 0)))), ?_⟩
    walk_at "rd"
    refine Rd.forS ?_
    walk_at "rd"
    refine ⟨by decide, by decide, ?_⟩
    refine for_range (lo := 0) (n := 100) (fun i σ H' => ∃ (x y : Nat) (o1 o2 : Option V), σ = [some (.int x), some (.int y), o1, o2] ∧ Nat.gcd x y = Nat.gcd a.natAbs b.natAbs ∧ y ≤ 90 - i ∧ H' = H)
      ⟨a.natAbs, b.natAbs, none, none, ?_, rfl, by omega, rfl⟩ ?_ ?_
    · rw [show ((a.natAbs : Nat) : Int) = a by omega, show ((b.natAbs : Nat) : Int) = b by omega]
      rfl
    · rintro i _ _ hi ⟨x, y, o1, o2, rfl, e, hy, rfl⟩
      walk_at "rd"
      refine ite2 (fun c => ?_) (fun c => ?_)
      · have y0 : y = 0 := by omega
        subst y0
        walk_at "rd"
        rw [Nat.gcd_zero_right] at e
        rw [e]
        exact k
      · walk_at "rd"
        refine Rd.iC (by omega) ?_
        walk_at "rd"
        have y1 : 0 < y := by omega
        have lt := Nat.mod_lt x y1
        refine ⟨y, x % y, some (.int (0 + i)), some (.int ((x : Int) % (y : Int))), ?_, ?_, by omega, rfl⟩
        · rw [Int.natCast_emod]
          rfl
        · rw [← e, Nat.gcd_comm x y, Nat.gcd_rec y x, Nat.gcd_comm]
    · rintro _ _ ⟨x, y, o1, o2, rfl, e, hy, rfl⟩
      walk_at "rd"
      have y0 : y = 0 := by omega
      subst y0
      rw [Nat.gcd_zero_right] at e
      rw [e]
      exact k
theorem ok_l_divisor (T : Txt K mg) : FnOk P w K mg base CX0 2 T.f_l_divisor T.fd_l_divisor ["_law_lengths_here"] (sp_l_divisor K) := by
  refine T.F_l_divisor.ok sc_l_divisor (fun vs H Q E h => ?_) (fun cdv A outer s H vs Q E hr h => ?_)
  · obtain ⟨a, ns, rfl, _⟩ := h
    rfl
  · obtain ⟨a, ns, rfl, hS, hn, k⟩ := h
    refine ⟨_, (pss_cons (ps_set (i := 1) sc_l_divisor.nd rfl (.inl rfl) pe_int)
  (pss_cons (ps_for PassesOwn.never rfl (pi_list (pv 0)) (pg_name (i := 2) sc_l_divisor.nd rfl (.inl rfl))
  (pss_one (ps_set (i := 1) sc_l_divisor.nd rfl (.inl rfl) (pe_call (ok_l_common T) (hr.mono (by decide)) rfl T.g_l_common T.F_l_common.kp T.b_l_common .nil pass0 (pa_cons (pv 2) (pa_cons (pv 1) pa_nil))))))
  (pss_one (ps_ret (pv 1))))), ?_⟩
    walk_at "rd"
    refine Rd.forS ?_
    walk_at "rd"
    refine ⟨⟨_, hS⟩, for_list (K := K) (a := a) (xs := ns.map V.int) (fun i σ H' => ∃ (g : Nat) (o : Option V), σ = [some (.ref a), some (.int g), o] ∧ g = (ns.take i).foldl (fun g l => Nat.gcd l.natAbs g) 0 ∧ g ≤ 60 ∧ Same H H')
      ⟨0, none, rfl, rfl, by decide, Same.refl H⟩ (fun i σ H' _ ⟨_, _, _, _, _, z⟩ => z.seq hS) ?_ ?_⟩
    · rintro i y _ H' hy ⟨g, o, rfl, eg, g1, sm⟩
      obtain ⟨l, hl, rfl⟩ := Rd.map_get hy
      have lr := hn l (List.mem_of_getElem? hl)
      walk_at "rd"
      refine ⟨l, g, rfl, by omega, by omega, by omega, ?_⟩
      walk_at "rd"
      refine ⟨Nat.gcd l.natAbs g, some (.int l), rfl, ?_, ?_, sm⟩
      · rw [Rd.take_snoc hl, List.foldl_append, ← eg]
        rfl
      · have := Nat.le_of_dvd (by omega) (Nat.gcd_dvd_left l.natAbs g)
        omega
    · rintro _ H' ⟨g, o, rfl, eg, g1, sm⟩
      rw [List.length_map, List.take_length] at eg
      walk_at "rd"
      rw [eg]
      exact k _ sm
def sp_l_reach (K : PySem.W.Frag) : Sp := fun vs H Q _ => ∃ (a : Addr) (ns : List Int) (last : Int), vs = [.ref a, .int last] ∧ SqL K H a (ns.map V.int) ∧ 0 ≤ last ∧ last ≤ 1000000 ∧
  ∀ H' b, Same H H' → (b = true ↔ M85.Reach ns last last) → Q (.bl b) H'
def sp_l_lengths (K : PySem.W.Frag) : Sp := fun vs H Q _ => ∃ (t c : Addr), vs = [.ref t] ∧ Tape H t c ∧ ∀ (l : Addr) (ns : List Int) H', Tape H' t c → Rd.But t H H' → H l = none → H' l = some (.lst (ns.map V.int)) → Lens ns → Q (.ref l) H'
theorem ok_l_reach (T : Txt K mg) : FnOk P w K mg base CX0 1 T.f_l_reach T.fd_l_reach ["_law_lengths_here", "_law_last"] (sp_l_reach K) := by
  refine T.F_l_reach.ok sc_l_reach (fun vs H Q E h => ?_) (fun cdv A outer s H vs Q E hr h => ?_)
  · obtain ⟨a, ns, last, rfl, _⟩ := h
    rfl
  · obtain ⟨a, ns, last, rfl, hS, l0, l1, k⟩ := h
    refine ⟨_, (pss_cons (ps_set (i := 2) sc_l_reach.nd rfl (.inl rfl) (pe_lst (pa_cons pe_int pa_nil)))
  (pss_cons (ps_set (i := 3) sc_l_reach.nd rfl (.inl rfl) (pe_op op_rep (pe_lst (pa_cons pe_bl pa_nil)) (pe_op op_add (pv 1) pe_int)))
  (pss_cons (ps_asg pe_bl (pg_sub (pv 3) pe_int set_list))
  (pss_cons (ps_for PassesOwn.never rfl (pi_range1 rfl T.n_range (pa_cons (pe_op op_add (pv 1) pe_int) pa_nil)) (pg_name (i := 4) sc_l_reach.nd rfl (.inl rfl))
  (pss_cons (ps_if (pt_cmpR op_ge (pv 4) (pe_callB (id := "len") (r := Rd.nLen K) Rd.c_len (by rfl) T.n_len (by decide +kernel) (pa_cons (pv 2) pa_nil)) (nomark _))
  (pss_one ps_break)
  pss_nil)
  (pss_one (ps_for PassesOwn.never rfl (pi_list (pv 0)) (pg_name (i := 5) sc_l_reach.nd rfl (.inl rfl))
  (pss_one (ps_for PassesOwn.never rfl (pi_list (pe_lst (pa_cons (pe_op op_add (pe_ix (r := rIxL K) ix_list (pv 2) (pv 4) (fun _ _ => rfl)) (pv 5)) (pa_cons (pe_op op_sub (pe_ix (r := rIxL K) ix_list (pv 2) (pv 4) (fun _ _ => rfl)) (pv 5)) pa_nil)))) (pg_name (i := 6) sc_l_reach.nd rfl (.inl rfl))
  (pss_one (ps_if (PW.pt (pw_and (pt_cmpR op_ge (pv 6) pe_int (nomark _)) (pw_and (pt_cmpR op_le (pv 6) (pv 1) (nomark _)) (pw_and1 (pt_not (pt_val (pe_ix (r := rIxL K) ix_list (pv 3) (pv 6) (fun _ _ => rfl))))))))
  (pss_cons (ps_asg pe_bl (pg_sub (pv 3) (pv 6) set_list))
  (pss_one (ps_expr (pe_bm PySem.F.plainAttrs_list PySem.F.slot_list_append PySem.F.type_list_append mt_append (pv 2) (pa_cons (pv 6) pa_nil)))))
  pss_nil))))))))
  (pss_one (ps_ret (pe_ix (r := rIxL K) ix_list (pv 3) (pv 1) (fun _ _ => rfl)))))))), ?_⟩
    walk_at "rd"
    refine ⟨Nat.le_of_ble_eq_true rfl, Rd.new fun f G1 npf gpf sG1 => ?_⟩
    walk_at "rd"
    refine ⟨Nat.le_of_ble_eq_true rfl, Rd.new fun p0 G2 np0 gp0 sG2 => ?_⟩
    walk_at "rd"
    have et : (last + 1).toNat = last.toNat + 1 := by omega
    refine Rd.rep gp0 (by omega) (by omega) (by rw [et, sizeLine_eq]; show 1 * _ ≤ _; omega) (Rd.new fun m G3 npm gpm sG3 => ?_)
    rw [Rd.rep_map, et] at gpm
    walk_at "rd"
    refine Rd.setG gpm (show ixN ((List.replicate (last.toNat + 1) false).map V.bl).length 0 = some 0 from Rd.ixN_of (by decide) (by simp; omega)) (Rd.map_set V.bl _ _ _) fun G4 g4 gb4 => ?_
    have s23 : Same H G2 := sG1.trans sG2
    have nm : H m = none := s23.free npm
    have nf : H f = none := npf
    have mf : m ≠ f := (ne_of_none (sG2 _ _ gpf) npm).symm
    have s4 : Same H G4 := fun b o e => by rw [gb4 b (ne_of_none e nm)]; exact sG3 _ _ (s23 _ _ e)
    have gf4 : G4 f = some (.lst (([0] : List Int).map V.int)) := by rw [gb4 f mf.symm]; exact sG3 _ _ (sG2 _ _ gpf)
    walk_at "rd"
    refine Rd.forS ?_
    walk_at "rd"
    refine ⟨by omega, by omega, ?_⟩
    rw [et]
    -- what holds between two turns
    refine for_range (lo := 0) (n := last.toNat + 1) (fun n σ H' => ∃ (met : List Bool) (found : List Int) (o0 o1 o2 : Option V), σ = [some (.ref a), some (.int last), some (.ref f), some (.ref m), o0, o1, o2] ∧ Same H H' ∧ H' m = some (.lst (met.map V.bl)) ∧ H' f = some (.lst (found.map V.int)) ∧
      M85.Good ns last met found ∧ M85.Closed ns last found n ∧ n ≤ found.length)
      ⟨_, [0], none, none, none, rfl, s4, g4, gf4, M85.Good.start l0, M85.Closed.zero, Nat.zero_le _⟩ ?_ ?_
    · rintro n _ H' hn ⟨met, found, o0, o1, o2, rfl, sm, hm, hf, good, cl, nl⟩
      rw [show (0 : Int) + (n : Int) = (n : Int) by omega]
      walk_at "rd"
      refine Rd.len (.inl (.of hf)) ?_
      rw [List.length_map]
      walk_at "rd"
      refine ite2 (fun c => ?_) (fun c => ?_)
      · -- all are gone through
        have c' : found.length ≤ n := by omega
        walk_at "rd"
        obtain ⟨b, hb, hbi⟩ := good.end cl c'
        refine Rd.ixL (.of hm) (Rd.atI_of l0 (show (met.map V.bl)[last.toNat]? = some (.bl b) by rw [List.getElem?_map, hb]; rfl)) ?_
        walk_at "rd"
        exact k _ _ sm hbi
      · have c' : n < found.length := by omega
        walk_at "rd"
        obtain ⟨x, hx⟩ : ∃ x, found[n]? = some x := ⟨_, List.getElem?_eq_getElem c'⟩
        have xr := good.reach x (List.mem_of_getElem? hx)
        refine Rd.forS ?_
        walk_at "rd"
        refine ⟨⟨_, sm.seq hS⟩, for_list (K := K) (a := a) (xs := ns.map V.int) (fun i σ H' => ∃ (met : List Bool) (found : List Int) (o1 o2 : Option V), σ = [some (.ref a), some (.int last), some (.ref f), some (.ref m), some (.int n), o1, o2] ∧ Same H H' ∧ H' m = some (.lst (met.map V.bl)) ∧ H' f = some (.lst (found.map V.int)) ∧
          M85.Good ns last met found ∧ M85.Closed ns last found n ∧ n < found.length ∧ found[n]? = some x ∧ M85.Near (ns.take i) last found x)
          ⟨met, found, o1, o2, rfl, sm, hm, hf, good, cl, c', hx, M85.Near.nil⟩ (fun i σ H' _ ⟨_, _, _, _, _, z, _⟩ => z.seq hS) ?_ ?_⟩
        · -- a length
          rintro i y _ H' hy ⟨met, found, o1, o2, rfl, sm, hm, hf, good, cl, c', hx, near⟩
          obtain ⟨l, hl, rfl⟩ := Rd.map_get hy
          have lm := List.mem_of_getElem? hl
          walk_at "rd"
          refine Rd.forS ?_
          walk_at "rd"
          have hx' : (found.map V.int)[n]? = some (.int x) := by rw [List.getElem?_map, hx]; rfl
          refine Rd.ixL (.of hf) (atI_nat hx') ?_
          walk_at "rd"
          refine Rd.ixL (.of hf) (atI_nat hx') ?_
          walk_at "rd"
          refine ⟨Nat.le_of_ble_eq_true rfl, Rd.new fun tp G4 np4 gp4 sG4 => ?_⟩
          walk_at "rd"
          have tm : tp ≠ m := (ne_of_none hm np4).symm
          have tf : tp ≠ f := (ne_of_none hf np4).symm
          refine ⟨⟨_, .of gp4⟩, for_list (K := K) (a := tp) (xs := [.int (x + l), .int (x - l)]) (fun j σ H' => ∃ (met : List Bool) (found : List Int) (o2 : Option V), σ = [some (.ref a), some (.int last), some (.ref f), some (.ref m), some (.int n), some (.int l), o2] ∧ Same H H' ∧ H' tp = some (.lst [.int (x + l), .int (x - l)]) ∧ H' m = some (.lst (met.map V.bl)) ∧ H' f = some (.lst (found.map V.int)) ∧
            M85.Good ns last met found ∧ M85.Closed ns last found n ∧ n < found.length ∧ found[n]? = some x ∧ M85.Near (ns.take i) last found x ∧ (1 ≤ j → 0 ≤ x + l → x + l ≤ last → x + l ∈ found) ∧ (2 ≤ j → 0 ≤ x - l → x - l ≤ last → x - l ∈ found))
            ⟨met, found, o2, rfl, sm.trans sG4, gp4, sG4 _ _ hm, sG4 _ _ hf, good, cl, c', hx, near, fun z => absurd z (by decide), fun z => absurd z (by decide)⟩ (fun j σ H' _ ⟨_, _, _, _, _, z, _⟩ => .of z) ?_ ?_⟩
          · -- a spot
            rintro j z _ H' hz ⟨met, found, o2, rfl, sm, ht, hm, hf, good, cl, c', hx, near, n1, n2⟩
            obtain ⟨t, rfl, et, ej⟩ : ∃ t, z = V.int t ∧ (t = x + l ∨ t = x - l) ∧ ((j = 0 ∧ t = x + l) ∨ (j = 1 ∧ t = x - l)) := by
              match j, hz with
              | 0, hz => cases hz; exact ⟨_, rfl, .inl rfl, .inl ⟨rfl, rfl⟩⟩
              | 1, hz => cases hz; exact ⟨_, rfl, .inr rfl, .inr ⟨rfl, rfl⟩⟩
              | j + 2, hz => simp at hz
            have fin : ∀ (met' : List Bool) (found' : List Int) (H2 : Hp), Same H H2 → H2 tp = some (.lst [.int (x + l), .int (x - l)]) → H2 m = some (.lst (met'.map V.bl)) → H2 f = some (.lst (found'.map V.int)) → M85.Good ns last met' found' → (found' = found ∨ found' = found ++ [t]) → (0 ≤ t → t ≤ last → t ∈ found') →
                ∃ (met : List Bool) (found : List Int) (o2 : Option V), [some (V.ref a), some (.int last), some (.ref f), some (.ref m), some (.int n), some (.int l), some (.int t)] = [some (.ref a), some (.int last), some (.ref f), some (.ref m), some (.int n), some (.int l), o2] ∧ Same H H2 ∧ H2 tp = some (.lst [.int (x + l), .int (x - l)]) ∧ H2 m = some (.lst (met.map V.bl)) ∧ H2 f = some (.lst (found.map V.int)) ∧
                  M85.Good ns last met found ∧ M85.Closed ns last found n ∧ n < found.length ∧ found[n]? = some x ∧ M85.Near (ns.take i) last found x ∧ (1 ≤ j + 1 → 0 ≤ x + l → x + l ≤ last → x + l ∈ found) ∧ (2 ≤ j + 1 → 0 ≤ x - l → x - l ≤ last → x - l ∈ found) := by
              intro met' found' H2 sm2 ht2 hm2 hf2 g2 ef hin
              refine ⟨met', found', _, rfl, sm2, ht2, hm2, hf2, g2, ?_⟩
              rcases ef with rfl | rfl
              · refine ⟨cl, c', hx, near, fun _ => ?_, fun q => ?_⟩
                · rcases ej with ⟨rfl, rfl⟩ | ⟨rfl, rfl⟩
                  · exact hin
                  · exact n1 (by omega)
                · rcases ej with ⟨rfl, rfl⟩ | ⟨rfl, rfl⟩
                  · omega
                  · exact hin
              · refine ⟨cl.more (by omega) _, by rw [List.length_append]; omega, by rw [List.getElem?_append_left c']; exact hx, near.more _, fun _ => ?_, fun q => ?_⟩
                · rcases ej with ⟨rfl, rfl⟩ | ⟨rfl, rfl⟩
                  · exact hin
                  · exact fun p0 p1 => List.mem_append_left _ (n1 (by omega) p0 p1)
                · rcases ej with ⟨rfl, rfl⟩ | ⟨rfl, rfl⟩
                  · omega
                  · exact hin
            walk_at "rd"
            refine ite2 (fun p0 => ?_) (fun p0 => ?_)
            · walk_at "rd"
              refine ite2 (fun p1 => ?_) (fun p1 => ?_)
              · obtain ⟨b, hb, hbi⟩ := good.at p0 p1
                walk_at "rd"
                refine Rd.ixL (.of hm) (Rd.atI_of p0 (show (met.map V.bl)[t.toNat]? = some (.bl b) by rw [List.getElem?_map, hb]; rfl)) ?_
                walk_at "rd"
                cases b with
                | true =>
                  walk_at "rd"
                  exact fin met found H' sm ht hm hf good (.inl rfl) fun _ _ => hbi.mp rfl
                | false =>
                  walk_at "rd"
                  have ml := good.len
                  refine Rd.setG hm (Rd.ixN_of p0 (by rw [List.length_map]; omega)) (Rd.map_set V.bl _ _ _) fun G5 g5 gb5 => ?_
                  walk_at "rd"
                  have hf5 : G5 f = some (.lst (found.map V.int)) := by rw [gb5 f mf.symm]; exact hf
                  have fl := good.le
                  refine Rd.tyL (.of hf5) ?_
                  walk_at "rd"
                  refine Rd.app hf5 (by rw [List.length_map, sizeLine_eq]; omega) fun G6 g6 gb6 => ?_
                  walk_at "rd"
                  have nw : M85.Reach ns last t := .step xr lm et p0 p1
                  refine fin (met.set t.toNat true) (found ++ [t]) G6 (fun b o e => ?_) ?_ ?_ ?_ (good.visit p0 p1 hb nw) (.inr rfl) fun _ _ => List.mem_append_right _ List.mem_cons_self
                  · rw [gb6 b (ne_of_none e nf), gb5 b (ne_of_none e nm)]
                    exact sm _ _ e
                  · rw [gb6 tp tf, gb5 tp tm]
                    exact ht
                  · rw [gb6 m mf]
                    exact g5
                  · rw [List.map_append]
                    exact g6
              · walk_at "rd"
                exact fin met found H' sm ht hm hf good (.inl rfl) fun _ q => absurd q p1
            · walk_at "rd"
              exact fin met found H' sm ht hm hf good (.inl rfl) fun q _ => absurd q p0
          · rintro _ H' ⟨met, found, o2, rfl, sm, ht, hm, hf, good, cl, c', hx, near, n1, n2⟩
            refine ⟨met, found, _, _, rfl, sm, hm, hf, good, cl, c', hx, ?_⟩
            rw [Rd.take_snoc hl]
            exact near.snoc (n1 (by simp)) (n2 (Nat.le_refl _))
        · rintro _ H' ⟨met, found, o1, o2, rfl, sm, hm, hf, good, cl, c', hx, near⟩
          rw [List.length_map, List.take_length] at near
          exact ⟨met, found, _, o1, o2, rfl, sm, hm, hf, good, cl.succ hx near, c'⟩
    · rintro _ H' ⟨met, found, o0, o1, o2, rfl, sm, hm, hf, good, cl, nl⟩
      walk_at "rd"
      obtain ⟨b, hb, hbi⟩ := good.end cl good.le
      refine Rd.ixL (.of hm) (Rd.atI_of l0 (show (met.map V.bl)[last.toNat]? = some (.bl b) by rw [List.getElem?_map, hb]; rfl)) ?_
      walk_at "rd"
      exact k _ _ sm hbi
end
end W

namespace W
open PySem PySem.Spec PyProof.Rows L2
section
variable {P : Program} {w : World} {K : PySem.W.Frag} {mg : Str → Option Value} {base : Heap}
/-! ### lone_told and lone_gaps of right lengths -/
def sp_check_lengths (K : PySem.W.Frag) : Sp := fun vs H Q _ => ∃ (a : Addr) (ns : List Int), vs = [.ref a] ∧ Ru.SqR K H a (ns.map V.int) ∧ Lens ns ∧ ∀ H', Same H H' → Q .non H'
def sp_lone_told (K : PySem.W.Frag) : Sp := fun vs H Q _ => ∃ (a : Addr) (ns : List Int) (last : Int), vs = [.ref a, .int last] ∧ Ru.SqR K H a (ns.map V.int) ∧ Lens ns ∧ 1 ≤ last ∧ last ≤ 10 ^ 30 ∧ ∀ H' b, Same H H' → (b = true ↔ M85.Reach ns last last) → Q (.bl b) H'
def sp_lone_gaps (K : PySem.W.Frag) : Sp := fun vs H Q _ => ∃ (a : Addr) (ns : List Int), vs = [.ref a] ∧ Ru.SqR K H a (ns.map V.int) ∧ Lens ns ∧ ∀ (l : Addr) H', Same H H' → H l = none → H' l = some (.lst ((M85.gaps ns).map V.int)) → Q (.ref l) H'
theorem pos_of {ns : List Int} (L : Lens ns) : ∀ l ∈ ns, 0 < l := fun l m => by have := L.all l m; omega
theorem mul_ge {ns : List Int} (L : Lens ns) (i : Nat) : (i : Int) + 1 ≤ M85.mul ns i := by
  have ⟨g0, _⟩ := gcdL_pos L
  unfold M85.mul
  have : (i : Int) * 1 ≤ (i : Int) * (M85.gcdL ns : Int) := Int.mul_le_mul_of_nonneg_left (by omega) (by omega)
  omega
theorem ok_check_lengths (T : Txt K mg) : FnOk P w K mg base CX0 4 T.f_check_lengths T.fd_check_lengths ["lengths"] (sp_check_lengths K) := by
  refine T.F_check_lengths.ok sc_check_lengths (fun vs H Q E h => ?_) (fun cdv A outer s H vs Q E hr h => ?_)
  · obtain ⟨a, ns, rfl, _⟩ := h
    rfl
  · obtain ⟨a, ns, rfl, hS, L, k⟩ := h
    refine ⟨_, (pss_cons (ps_if (PW.pt (pw_or (pt_not (pt_val (pe_callB (id := "isinstance") (r := rIsiT K) call_isiT (by rfl) T.n_isinstance (by decide +kernel) (pa_cons (pv 0) (pa_cons (pe_tup (pa_cons (pe_bltn (v := .ty "list") (u := .type "list") (by rfl) T.n_list (by decide +kernel) rfl) (pa_cons (pe_bltn (v := .ty "tuple") (u := .type "tuple") (by rfl) T.n_tuple (by decide +kernel) rfl) pa_nil))) pa_nil))))) (pw_or1 (pt_not (pt_chain op_le op_le pe_int (pe_callB (id := "len") (r := Rd.nLen K) Rd.c_len (by rfl) T.n_len (by decide +kernel) (pa_cons (pv 0) pa_nil)) (pe_glob (v := .int 8) rfl T.m_MOST_LENGTHS ⟨_, rfl⟩))))))
  (pss_one ps_never)
  pss_nil)
  (pss_one (ps_for PassesOwn.never rfl (Ru.pi_or (pi_enum (by rfl) T.n_enumerate (pa_cons (pv 0) pa_nil)) (Ru.pi_enumT (by rfl) T.n_enumerate (pa_cons (pv 0) pa_nil))) (pg_tup rfl (pgs_cons (pg_name (i := 1) sc_check_lengths.nd rfl (.inl rfl)) (pgs_cons (pg_name (i := 2) sc_check_lengths.nd rfl (.inl rfl)) pgs_nil)))
  (pss_one (ps_if (PW.pt (pw_or (pt_not (pt_val (pe_call (ok_is_integer T) (hr.mono (by decide)) rfl T.g_is_integer T.F_is_integer.kp T.b_is_integer .nil pass0 (pa_cons (pv 2) pa_nil)))) (pw_or1 (pt_not (pt_chain op_le op_le pe_int (pv 2) (pe_glob (v := .int 60) rfl T.m_MOST_LENGTH ⟨_, rfl⟩))))))
  (pss_one ps_never)
  pss_nil))))), ?_⟩
    have l0 := L.l0
    have l1 := L.l1
    walk_at "rd"
    refine ⟨Nat.le_of_ble_eq_true rfl, Rd.new fun p G hp gp sG => ?_⟩
    walk_at "rd"
    refine Ru.isRow (hS.same sG) gp ?_
    walk_at "rd"
    refine Rd.len (hS.same sG) ?_
    rw [List.length_map]
    walk_at "rd"
    refine ite2 (fun c1 => ?_) (fun c1 => absurd c1 (by omega))
    walk_at "rd"
    refine ite2 (fun c2 => ?_) (fun c2 => absurd c2 (by omega))
    walk_at "rd"
    refine Ru.for_enumR (a := a) (xs := ns.map V.int) (fun Q q => ?_) (fun i σ H' => ∃ o1 o2, σ = [some (.ref a), o1, o2] ∧ Same G H') (hS.same sG) ⟨_, _, rfl, Same.refl _⟩ (fun i σ H' _ ⟨_, _, _, z⟩ => z) ?_ ?_
    · walk_at "rd"
      exact q
    · rintro i x _ H' t hx ⟨o1, o2, rfl, sm⟩ hT
      obtain ⟨n, hn, rfl⟩ := Rd.map_get hx
      have hn' := L.all n (List.mem_of_getElem? hn)
      refine Rd.tupT (.of upd_same) rfl ?_
      have sm2 := sm.trans (Rd.same_upd (o := .tup [.int (i : Nat), .int n]) hT)
      walk_at "rd"
      refine ⟨n, rfl, ?_⟩
      walk_at "rd"
      refine ite2 (fun d1 => ?_) (fun d1 => absurd hn'.1 d1)
      walk_at "rd"
      refine ite2 (fun d2 => ?_) (fun d2 => absurd hn'.2 d2)
      walk_at "rd"
      exact ⟨_, _, rfl, sm2⟩
    · rintro _ H' ⟨o1, o2, rfl, sm⟩
      walk_at "rd"
      exact k _ (sG.trans sm)
theorem ok_lone_told (T : Txt K mg) : FnOk P w K mg base CX0 5 T.f_lone_told T.fd_lone_told ["lengths", "last"] (sp_lone_told K) := by
  refine T.F_lone_told.ok sc_lone_told (fun vs H Q E h => ?_) (fun cdv A outer s H vs Q E hr h => ?_)
  · obtain ⟨a, ns, last, rfl, _⟩ := h
    rfl
  · obtain ⟨a, ns, last, rfl, hS, L, n1, n2, k⟩ := h
    refine ⟨_, (pss_cons (ps_expr (pe_call (ok_check_lengths T) (hr.mono (by decide)) rfl T.g_check_lengths T.F_check_lengths.kp T.b_check_lengths .nil pass0 (pa_cons (pv 0) pa_nil)))
  (pss_cons (ps_if (PW.pt (pw_or (pt_not (pt_val (pe_call (ok_is_integer T) (hr.mono (by decide)) rfl T.g_is_integer T.F_is_integer.kp T.b_is_integer .nil pass0 (pa_cons (pv 1) pa_nil)))) (pw_or1 (pt_not (pt_chain op_le op_le pe_int (pv 1) (pe_glob (v := .int (10 ^ 30)) rfl T.m_MOST_LAST ⟨_, rfl⟩))))))
  (pss_one ps_never)
  pss_nil)
  (pss_one (ps_ret (pe_call (ok_is_reached T) (hr.mono (by decide)) rfl T.g_is_reached T.F_is_reached.kp T.b_is_reached .nil pass0 (pa_cons (pv 0) (pa_cons (pv 1) pa_nil))))))), ?_⟩
    walk_at "rd"
    refine ⟨a, ns, rfl, hS, L, fun H1 s1 => ?_⟩
    walk_at "rd"
    refine ⟨last, rfl, ?_⟩
    walk_at "rd"
    refine ite2 (fun d1 => ?_) (fun d1 => absurd n1 d1)
    walk_at "rd"
    refine ite2 (fun d2 => ?_) (fun d2 => absurd n2 d2)
    walk_at "rd"
    refine ⟨a, ns, last, rfl, hS.same s1, L, by omega, fun H2 b s2 hb => k _ b (s1.trans s2) hb⟩
theorem ok_lone_gaps (T : Txt K mg) : FnOk P w K mg base CX0 5 T.f_lone_gaps T.fd_lone_gaps ["lengths"] (sp_lone_gaps K) := by
  refine T.F_lone_gaps.ok sc_lone_gaps (fun vs H Q E h => ?_) (fun cdv A outer s H vs Q E hr h => ?_)
  · obtain ⟨a, ns, rfl, _⟩ := h
    rfl
  · obtain ⟨a, ns, rfl, hS, L, kN⟩ := h
    refine ⟨_, (pss_cons (ps_expr (pe_call (ok_check_lengths T) (hr.mono (by decide)) rfl T.g_check_lengths T.F_check_lengths.kp T.b_check_lengths .nil pass0 (pa_cons (pv 0) pa_nil)))
  (pss_cons (ps_set (i := 1) sc_lone_gaps.nd rfl (.inl rfl) (pe_call (ok_divisor_of T) (hr.mono (by decide)) rfl T.g_divisor_of T.F_divisor_of.kp T.b_divisor_of .nil pass0 (pa_cons (pv 0) pa_nil)))
  (pss_one (ps_ret (pe_lc (own := [("last", 2)]) (g := gName 2)  rfl sc_lone_gaps.nd (pi_range3 rfl T.n_range (pa_cons (pv 1) (pa_cons (pe_call (ok_far_from T) (hr.mono (by decide)) rfl T.g_far_from T.F_far_from.kp T.b_far_from .nil pass0 (pa_cons (pv 0) pa_nil)) (pa_cons (pv 1) pa_nil)))) (blkOk_by (own := [("last", 2)]) (N := ["lengths", "part", "last"]) (sc := defScope s_lone_gaps) (by decide +kernel)) (fun _ _ _ _ _ => (pg_name (i := 2) sc_lone_gaps.nd rfl (.inl rfl))) (fun _ _ _ _ _ => pts_one (pt_not (pt_val (pe_call (ok_steps_reach T) (hr.mono (by decide)) rfl T.g_steps_reach T.F_steps_reach.kp T.b_steps_reach .nil pass0 (pa_cons (pv 0) (pa_cons (pv 2) pa_nil)))))) (fun _ _ _ _ _ => (pv 2))))))), ?_⟩
    walk_at "rd"
    refine ⟨a, ns, rfl, hS, L, fun H1 s1 => ?_⟩
    have sq : Ru.SqR K H1 a (ns.map V.int) := hS.same s1
    have ⟨g0, g1⟩ := gcdL_pos L
    walk_at "rd"
    refine ⟨a, ns, rfl, sq, fun H2 s2 => ?_⟩
    walk_at "rd"
    refine ⟨a, ns, rfl, sq.same s2, L, fun H3 r s3 r0 r1 hp => ?_⟩
    walk_at "rd"
    have sq3 := (sq.same s2).same s3
    refine ⟨_, _, _, _, rfl, Rx.rg_pos (by omega) (by omega) (by omega) (by omega) (by omega) (by omega), ?_⟩
    have far : ∀ i, Rx.cnt (M85.gcdL ns) r (M85.gcdL ns) ≤ i → M85.Reach ns (M85.mul ns i) (M85.mul ns i) := fun i h => by
      have := Rx.cnt_lt (i := (M85.gcdL ns : Int)) (j := r) (c := (M85.gcdL ns : Int)) (by omega) i
      exact M85.reach_mul (pos_of L) (hp _ (by unfold M85.mul; omega))
    have few : Rx.cnt (M85.gcdL ns) r (M85.gcdL ns) ≤ 121 := by
      rcases Nat.lt_or_ge 121 (Rx.cnt (M85.gcdL ns) r (M85.gcdL ns)) with h | h
      · have := (Rx.cnt_lt (i := (M85.gcdL ns : Int)) (j := r) (c := (M85.gcdL ns : Int)) (by omega) 121).mp h
        have := mul_ge L 121
        unfold M85.mul at this
        omega
      · exact h
    walk_at "rd"
    refine Rd.lcS walk_rangeC (fun _ _ => trivial) (fun D i acc Hc => acc = (M85.gapsTo ns i).map V.int) (fun _ _ _ _ _ => rfl) ?_ ?_
    · rintro D i x G1 _ acc nD hi hD sm rfl ⟨rfl, rfl⟩
      walk_at "rd"
      refine ⟨rfl, ?_⟩
      have m0 := mul_ge L i
      have m1 : M85.mul ns i < r := (Rx.cnt_lt (i := (M85.gcdL ns : Int)) (j := r) (c := (M85.gcdL ns : Int)) (by omega) i).mp hi
      have ln : (M85.gapsTo ns i).length ≤ i := by
        unfold M85.gapsTo
        rw [List.length_map]
        have := List.length_filter_le (M85.gap ns) (List.range i)
        rwa [List.length_range] at this
      walk_at "rd"
      refine ⟨a, ns, M85.mul ns i, rfl, sq3.same sm, by omega, by omega, fun G2 b s4 hb => ?_⟩
      walk_at "rd"
      cases b with
      | true =>
        walk_at "rd"
        refine ⟨_, s4 _ _ hD, sm.trans s4, ?_⟩
        dsimp only
        rw [M85.gapsTo_succ, if_pos (hb.mp rfl), List.append_nil]
      | false =>
        walk_at "rd"
        refine Rd.lcPush (s4 _ _ hD) nD (sm.trans s4) (by rw [List.length_map, sizeLine_eq]; omega) fun G3 g3 off3 => ?_
        rw [M85.gapsTo_succ, if_neg (fun q => by simpa using hb.mpr q), List.map_append]
        rfl
    · rintro D acc G1 nD hD sm rfl
      walk_at "rd"
      refine kN D _ (((s1.trans s2).trans s3).trans sm) (((s1.trans s2).trans s3).free nD) ?_
      rw [← M85.gaps_of few far]
      exact hD

end
end W

namespace W
open PySem PySem.Spec PyProof.Rows L2
section
variable {P : Program} {w : World} {K : PySem.W.Frag} {mg : Str → Option Value} {base : Heap}
/-! ### the law's own flag of a number; the shape of what powers tells -/
def sp_l_flag_at (K : PySem.W.Frag) : Sp := fun vs H Q _ => ∃ (p a r : Addr) (ah rd : List Bool) (n : Int), vs = [.ref p, .int n] ∧ H p = some (.tup [.ref a, .ref r]) ∧ H a = some (.lst (ah.map V.bl)) ∧ H r = some (.lst (rd.map V.bl)) ∧ 1 ≤ n ∧ 1 ≤ rd.length ∧ ∀ b, Mfe.at_ ah rd (n - 1).toNat = some b → Q (.bl b) H
def sp_l_shaped (K : PySem.W.Frag) : Sp := fun vs H Q _ => ∃ (p a r : Addr) (ah rd : List Bool), vs = [.ref p] ∧ H p = some (.tup [.ref a, .ref r]) ∧ H a = some (.lst (ah.map V.bl)) ∧ H r = some (.lst (rd.map V.bl)) ∧ ah.length + rd.length ≤ 6000000 ∧ 1 ≤ rd.length ∧ Mfe.Prim rd ∧ Mfe.Last ah rd ∧ ∀ H', Same H H' → Q (.bl true) H'
theorem bl_get {fl : List Bool} {i : Nat} {b : Bool} (h : fl[i]? = some b) : (fl.map V.bl)[i]? = some (.bl b) := by rw [List.getElem?_map, h]; rfl
theorem ok_l_flag_at (T : Txt K mg) : FnOk P w K mg base CX0 1 T.f_l_flag_at T.fd_l_flag_at ["_law_told", "_law_times"] (sp_l_flag_at K) := by
  refine T.F_l_flag_at.ok sc_l_flag_at (fun vs H Q E h => ?_) (fun cdv A outer s H vs Q E hr h => ?_)
  · obtain ⟨p, a, r, ah, rd, n, rfl, _⟩ := h
    rfl
  · obtain ⟨p, a, r, ah, rd, n, rfl, gp, ga, gr, n1, r1, k⟩ := h
    refine ⟨_, (pss_cons (ps_asg (pv 0) (pg_tup rfl (pgs_cons (pg_name (i := 2) sc_l_flag_at.nd rfl (.inl rfl)) (pgs_cons (pg_name (i := 3) sc_l_flag_at.nd rfl (.inl rfl)) pgs_nil))))
  (pss_cons (ps_if (pt_cmpR op_le (pv 1) (pe_callB (id := "len") (r := Rd.nLen K) Rd.c_len (by rfl) T.n_len (by decide +kernel) (pa_cons (pv 2) pa_nil)) (nomark _))
  (pss_one (ps_ret (pe_ix (r := rIxL K) ix_list (pv 2) (pe_op op_sub (pv 1) pe_int) (fun _ _ => rfl))))
  pss_nil)
  (pss_one (ps_ret (pe_ix (r := rIxL K) ix_list (pv 3) (pe_op op_mod (pe_callTy (T := "int") (r := _) Rd.c_int (by rfl) T.n_int (by decide +kernel) (pa_cons (pe_op op_sub (pe_op op_sub (pv 1) pe_int) (pe_callB (id := "len") (r := Rd.nLen K) Rd.c_len (by rfl) T.n_len (by decide +kernel) (pa_cons (pv 2) pa_nil))) pa_nil)) (pe_callB (id := "len") (r := Rd.nLen K) Rd.c_len (by rfl) T.n_len (by decide +kernel) (pa_cons (pv 3) pa_nil))) (fun _ _ => rfl)))))), ?_⟩
    walk_at "rd"
    refine Rd.tupT (.of gp) rfl ?_
    walk_at "rd"
    refine Rd.len (.inl (.of ga)) ?_
    rw [List.length_map]
    walk_at "rd"
    refine ite2 (fun c => ?_) (fun c => ?_)
    · have lt : (n - 1).toNat < ah.length := by omega
      walk_at "rd"
      refine Rd.ixL (.of ga) (Rd.atI_of (by omega) (bl_get (List.getElem?_eq_getElem lt))) ?_
      refine k _ ?_
      unfold Mfe.at_
      rw [if_pos lt]
      exact List.getElem?_eq_getElem lt
    · walk_at "rd"
      refine Rd.len (.inl (.of ga)) ?_
      rw [List.length_map]
      walk_at "rd"
      refine Rd.len (.inl (.of gr)) ?_
      rw [List.length_map]
      walk_at "rd"
      refine Rd.iC (by omega) ?_
      have lt : ((n - 1).toNat - ah.length) % rd.length < rd.length := Nat.mod_lt _ r1
      have e : ((n - 1 - (ah.length : Int)) % (rd.length : Int)) = ((((n - 1).toNat - ah.length) % rd.length : Nat) : Int) := by
        rw [show n - 1 - (ah.length : Int) = (((n - 1).toNat - ah.length : Nat) : Int) by omega, ← Int.natCast_emod]
      rw [e]
      refine Rd.ixL (.of gr) (Rd.atI_of (by omega) (by rw [Int.toNat_natCast]; exact bl_get (List.getElem?_eq_getElem lt))) ?_
      refine k _ ?_
      unfold Mfe.at_
      rw [if_neg (by omega)]
      exact List.getElem?_eq_getElem lt
end
end W

namespace W
open PySem PySem.Spec PyProof.Rows L2
section
variable {P : Program} {w : World} {K : PySem.W.Frag} {mg : Str → Option Value} {base : Heap}
def sp_l_flag (K : PySem.W.Frag) : Sp := fun vs H Q _ => ∃ a b : Bool, vs = [.bl a, .bl b] ∧ Q (.bl (a == b)) H
theorem flagR {K : PySem.W.Frag} {H : Hp} {a b : Bool} {Q : VK} {E : XK} (k : Q (.bl (a == b)) H) : sp_l_flag K [.bl a, .bl b] H Q E := ⟨a, b, rfl, k⟩
theorem ok_l_flag (T : Txt K mg) : FnOk P w K mg base CX0 1 T.f_l_flag T.fd_l_flag ["_law_told", "_law_due"] (sp_l_flag K) := by
  refine T.F_l_flag.ok sc_l_flag (fun vs H Q E h => ?_) (fun cdv A outer s H vs Q E hr h => ?_)
  · obtain ⟨a, b, rfl, _⟩ := h
    rfl
  · obtain ⟨a, b, rfl, k⟩ := h
    refine ⟨_, (pss_one (ps_ret (pe_and (pe_callB (id := "isinstance") (r := rIsi K) call_isi (by rfl) T.n_isinstance (by decide +kernel) (pa_cons (pv 0) (pa_cons (pe_bltn (v := .ty "bool") (u := .type "bool") (by rfl) T.n_bool (by decide +kernel) rfl) pa_nil))) (pe_one (pe_cmpR op_eq (pv 0) (pv 1) (nomark _)))))), ?_⟩
    walk_at "rd"
    refine Rd.isiB ?_
    walk_at "rd"
    exact k

end
end W

namespace W
open PySem PySem.Spec PyProof.Rows L2
section
variable {P : Program} {w : World} {K : PySem.W.Frag} {mg : Str → Option Value} {base : Heap}
/-! ### words of one letter, plain -/
structure One (y : Str) (c : Nat) : Prop where
  ok : Lt.Let y
  sg : sg y = List.replicate 1 c
theorem One.len {y : Str} {c : Nat} (O : One y c) : y.length = 1 := by
  rw [← sg_len, O.sg]
  rfl
theorem one_of {d : Nat} (h : d ∈ Lt.Abc.cps.toList) : One ⟨#[d]⟩ d := ⟨Lt.Let.one h, rfl⟩
def ys (y : Str) (rs : List Int) : List Str := rs.map fun l => Txt.mul y l
theorem mul1 {y : Str} {c : Nat} (O : One y c) {n : Int} (h : 0 ≤ n) : (Txt.mul y n).length = n.toNat := by
  have := mul_len y n.toNat
  rw [Int.toNat_of_nonneg h] at this
  rw [this, O.len]
  exact Nat.mul_one _
theorem sg1 {y : Str} {c : Nat} (O : One y c) {n : Int} (h : 0 ≤ n) : sg (Txt.mul y n) = List.replicate n.toNat c := by
  have := sg_mul y n.toNat
  rw [Int.toNat_of_nonneg h, O.sg, Mfl.rep_one, Nat.mul_one] at this
  exact this
theorem let1 {y : Str} {c : Nat} (O : One y c) {n : Int} (h : 0 ≤ n) : Lt.Let (Txt.mul y n) := by
  have := mul_let O.ok n.toNat
  rw [Int.toNat_of_nonneg h] at this
  exact this
theorem ok1 {y : Str} {c : Nat} (O : One y c) {n : Int} (h : 0 ≤ n) (h2 : n ≤ 1000) : MulOk y n := by
  have := mulOk (y := y) (n := n.toNat) (by rw [O.len]; decide) (by omega)
  rwa [Int.toNat_of_nonneg h] at this
theorem wd1 {y : Str} {c : Nat} (O : One y c) {m n : Int} (h : 1 ≤ n) (h2 : n ≤ m) : Lt.Wd m (Txt.mul y n) := by
  have := mul1 O (n := n) (by omega)
  exact ⟨let1 O (by omega), by omega, by omega⟩
theorem mul_inj {y : Str} {c : Nat} (O : One y c) {a b : Int} (ha : 0 ≤ a) (hb : 0 ≤ b) (e : Txt.mul y a = Txt.mul y b) : a = b := by
  have := congrArg Str.length e
  rw [mul1 O ha, mul1 O hb] at this
  omega
theorem wss1 {y : Str} {c : Nat} (O : One y c) {rs : List Int} (h : ∀ n ∈ rs, 1 ≤ n ∧ n ≤ 12) : Wss (ys y rs) = Mfl.one c rs := by
  unfold Wss ys Mfl.one
  rw [List.map_map]
  exact List.map_congr_left fun n m => sg1 O (by have := h n m; omega)
theorem watches1 {y : Str} {c : Nat} (O : One y c) {rs : List Int} (nd : rs.Nodup) (h : ∀ n ∈ rs, 1 ≤ n ∧ n ≤ 12) (l : rs.length ≤ 12) : Watches (ys y rs) := by
  refine ⟨?_, by unfold ys; rw [List.length_map]; exact l, fun W m => ?_⟩
  · unfold ys
    exact List.pairwise_map.mpr (List.Pairwise.imp_of_mem (fun {a b} ma mb ne e => ne (mul_inj O (by have := h a ma; omega) (by have := h b mb; omega) e)) nd)
  · unfold ys at m
    obtain ⟨n, mn, rfl⟩ := List.mem_map.mp m
    have hn := h n mn
    exact wd1 O hn.1 hn.2
theorem told1 {y : Str} {c : Nat} (O : One y c) {rs : List Int} (h : ∀ n ∈ rs, 1 ≤ n ∧ n ≤ 12) (n : Int) (n1 : 1 ≤ n) : Mw.Told (ys y rs) (Txt.mul y n) ↔ M85.Reach rs n n := by
  rw [cn_told, wss1 O h, sg1 O (by omega), List.length_replicate]
  have := Mfl.cn_one (c := c) (ns := rs) (fun l m => (h l m).1) (n := n.toNat)
  rw [Int.toNat_of_nonneg (by omega)] at this
  exact this
/-- the flag of a number -/
theorem flag1 {y : Str} {c : Nat} (O : One y c) {rs : List Int} (h : ∀ n ∈ rs, 1 ≤ n ∧ n ≤ 12) {a b e n : Int} (ha : 0 ≤ a) (hb : 0 ≤ b) (he : 0 ≤ e) (n1 : 1 ≤ n) : Mfd.flag (Wss (ys y rs)) (sg (Txt.mul y a)) (sg (Txt.mul y b)) (sg (Txt.mul y e)) (n - 1).toNat = true ↔ M85.Reach rs (a + b * n + e) (a + b * n + e) := by
  have := Mfl.flag_one h (c := c) a.toNat b.toNat e.toNat (n - 1).toNat
  rw [wss1 O h, sg1 O ha, sg1 O hb, sg1 O he, this]
  have e2 : ((a.toNat + ((n - 1).toNat + 1) * b.toNat + e.toNat : Nat) : Int) = a + b * n + e := by
    rw [show (n - 1).toNat + 1 = n.toNat by omega, Nat.mul_comm]
    rw [Int.natCast_add, Int.natCast_add, Int.natCast_mul, Int.toNat_of_nonneg ha, Int.toNat_of_nonneg hb, Int.toNat_of_nonneg he, Int.toNat_of_nonneg (show 0 ≤ n by omega)]
  rw [e2]
theorem gaps1 {rs : List Int} (L : Lens rs) (n : Int) (n1 : 1 ≤ n) (n60 : n ≤ 60) : M85.Reach rs n n ↔ n % (M85.gcdL rs : Int) = 0 ∧ n ∉ M85.gaps rs := by
  have ⟨g0, g1⟩ := gcdL_pos L
  constructor
  · intro h
    refine ⟨Int.emod_eq_zero_of_dvd h.dvd, fun m => ?_⟩
    obtain ⟨i, e, no⟩ := M85.gaps_mem m
    exact no (by rw [← e]; exact h)
  · rintro ⟨d, no⟩
    refine Classical.byContradiction fun nr => no ?_
    obtain ⟨k, hk⟩ := Int.dvd_of_emod_eq_zero d
    have k1 : 1 ≤ k := by
      refine Classical.byContradiction fun q => ?_
      have : (M85.gcdL rs : Int) * k ≤ (M85.gcdL rs : Int) * 0 := Int.mul_le_mul_of_nonneg_left (by omega) (by omega)
      omega
    have k60 : k ≤ 60 := by
      have : 1 * k ≤ (M85.gcdL rs : Int) * k := Int.mul_le_mul_of_nonneg_right (by omega) (by omega)
      omega
    have em : M85.mul rs (k - 1).toNat = n := by
      have := mul_ge L (k - 1).toNat
      unfold M85.mul
      rw [hk, show (((k - 1).toNat : Nat) : Int) = k - 1 by omega, Int.sub_mul, Int.one_mul, Int.mul_comm k]
      omega
    unfold M85.gaps M85.gapsTo
    refine List.mem_map.mpr ⟨(k - 1).toNat, List.mem_filter.mpr ⟨List.mem_range.mpr (by omega), ?_⟩, em⟩
    unfold M85.gap
    rw [em]
    simpa using nr
/-- lengths that others tell add nothing -/
theorem reach_drop {rs ss : List Int} (hr : ∀ n ∈ rs, 1 ≤ n ∧ n ≤ 12) (hs : ∀ n ∈ ss, 1 ≤ n ∧ n ≤ 12) (sub : ∀ l ∈ ss, l ∈ rs) (h : ∀ l ∈ rs, M85.Reach ss l l) {n : Int} (n1 : 1 ≤ n) : M85.Reach rs n n ↔ M85.Reach ss n n := by
  refine ⟨fun r => ?_, fun r => r.mono sub⟩
  have O : One ⟨#[97]⟩ 97 := one_of (by decide +kernel)
  rw [← told1 O hs n n1]
  refine told_drop (ws := ys ⟨#[97]⟩ rs) (fun W m => ?_) ((told1 O hr n n1).mpr r)
  obtain ⟨l, ml, rfl⟩ := List.mem_map.mp m
  exact (told1 O hs l (hr l ml).1).mpr (h l ml)
theorem gcd_drop {rs ss : List Int} (sub : ∀ l ∈ ss, l ∈ rs) (h : ∀ l ∈ rs, M85.Reach ss l l) : M85.gcdL rs = M85.gcdL ss :=
  Nat.dvd_antisymm (M85.dvd_fold ss 0 (Nat.dvd_zero _) fun l m => M85.gcdL_dvd (sub l m)) (M85.dvd_fold rs 0 (Nat.dvd_zero _) fun l m => (h l m).dvd)
theorem gaps_drop {rs ss : List Int} (L : Lens rs) (hr : ∀ n ∈ rs, 1 ≤ n ∧ n ≤ 12) (hs : ∀ n ∈ ss, 1 ≤ n ∧ n ≤ 12) (sub : ∀ l ∈ ss, l ∈ rs) (h : ∀ l ∈ rs, M85.Reach ss l l) : M85.gaps rs = M85.gaps ss := by
  have e1 : M85.mul rs = M85.mul ss := by
    funext i
    unfold M85.mul
    rw [gcd_drop sub h]
  have e2 : M85.gap rs = M85.gap ss := by
    funext i
    unfold M85.gap
    have := mul_ge L i
    have r := reach_drop hr hs sub h (n := M85.mul rs i) (by omega)
    rw [← e1]
    simp [r]
  unfold M85.gaps M85.gapsTo
  rw [e1, e2]
theorem gaps_few (rs : List Int) : (M85.gaps rs).length ≤ 121 := by
  unfold M85.gaps M85.gapsTo
  rw [List.length_map]
  have := List.length_filter_le (M85.gap rs) (List.range 121)
  rwa [List.length_range] at this
theorem reach_self {rs : List Int} {l : Int} (m : l ∈ rs) (h : 0 ≤ l) : M85.Reach rs l l := .step .zero m (.inl (by omega)) h (Int.le_refl _)
theorem pw_all {α : Type} {R : α → α → Prop} : ∀ {l : List α}, (∀ a ∈ l, ∀ b ∈ l, R a b) → l.Pairwise R
  | [], _ => .nil
  | a :: l, h => List.pairwise_cons.mpr ⟨fun b m => h a (List.mem_cons_self ..) b (List.mem_cons_of_mem _ m), pw_all fun x mx y my => h x (List.mem_cons_of_mem _ mx) y (List.mem_cons_of_mem _ my)⟩
/-- what is due of a whole length -/
theorem far1 {rs : List Int} (h : ∀ n ∈ rs, 1 ≤ n ∧ n ≤ 12) {n : Int} (n1 : 24 ≤ n) : (n % (M85.gcdL rs : Int) = 0) ↔ M85.Reach rs n n := by
  have pw : rs.Pairwise fun a b => a + b ≤ n := pw_all fun a ma b mb => by
    have := h a ma
    have := h b mb
    omega
  rw [M85.reach_iff (by omega) (fun l m => by have := h l m; omega) pw]
  exact ⟨fun q => Int.dvd_of_emod_eq_zero q, fun q => Int.emod_eq_zero_of_dvd q⟩
/-! the words told -/
theorem signs1 {d : Nat} : Re.Signs ⟨#[d]⟩ = [⟨#[d]⟩] := rfl
theorem mul_succ {y : Str} (k : Nat) : Txt.mul y (k : Int) ++ y = Txt.mul y ((k + 1 : Nat) : Int) := by
  refine str_ext ?_
  show sg (Txt.mul y (k : Int) ++ y) = sg _
  rw [sg_mul, show sg (Txt.mul y (k : Int) ++ y) = sg (Txt.mul y (k : Int)) ++ sg y from Array.toList_append, sg_mul]
  unfold Mfc.rep
  rw [List.replicate_succ', List.flatten_append]
  simp
theorem words1 {d : Nat} : ∀ k : Nat, wordsOf ⟨#[d]⟩ k = [Txt.mul ⟨#[d]⟩ (k : Int)]
  | 0 => by
    show [("" : Str)] = _
    congr 1
  | k + 1 => by
    show (wordsOf ⟨#[d]⟩ k).flatMap _ = _
    rw [words1 k]
    show ((Re.Signs ⟨#[d]⟩).map fun c => Txt.mul ⟨#[d]⟩ (k : Int) ++ c) ++ [] = _
    rw [signs1]
    show [Txt.mul ⟨#[d]⟩ (k : Int) ++ ⟨#[d]⟩] = _
    rw [mul_succ]
theorem all1 {d : Nat} : ∀ k : Nat, allOf ⟨#[d]⟩ k = (List.range k).map fun i : Nat => Txt.mul ⟨#[d]⟩ ((i + 1 : Nat) : Int)
  | 0 => rfl
  | k + 1 => by
    show allOf ⟨#[d]⟩ k ++ wordsOf ⟨#[d]⟩ (k + 1) = _
    rw [all1 k, words1, List.range_succ, List.map_append]
    rfl
theorem le_len {a b : Str} (h : a.length < b.length) : PySem.W.dataLe false keyD a b = true := by
  show (!PySem.W.dataLt (keyD b) (keyD a)) = true
  rw [Bool.not_eq_true']
  unfold PySem.W.dataLt keyD
  simp [PySem.W.keyToks, PySem.W.keyToksAll]
  have n2 : (Sum.inl (b.length : Int) : Int ⊕ List Nat) ≠ Sum.inl (a.length : Int) := fun e => by
    have := Sum.inl.inj e
    omega
  rw [lex_self (O := itemOrd), lex_diff (O := itemOrd) n2]
  show itemLt (.inl (b.length : Int)) (.inl (a.length : Int)) = false
  unfold itemLt
  exact decide_eq_false (by omega)
open Classical in
/-- lengths to so many that are told -/
noncomputable def upTo (rs : List Int) (k : Nat) : List Int := ((List.range k).map fun i : Nat => ((i + 1 : Nat) : Int)).filter fun n => decide (M85.Reach rs n n)
open Classical in
theorem upTo_succ (rs : List Int) (k : Nat) : upTo rs (k + 1) = upTo rs k ++ if M85.Reach rs ((k + 1 : Nat) : Int) ((k + 1 : Nat) : Int) then [((k + 1 : Nat) : Int)] else [] := by
  unfold upTo
  rw [List.range_succ, List.map_append, List.filter_append]
  congr 1
  by_cases h : M85.Reach rs ((k + 1 : Nat) : Int) ((k + 1 : Nat) : Int)
  · rw [if_pos h]
    simp only [List.map_cons, List.map_nil, List.filter_cons, List.filter_nil, decide_eq_true h, if_true]
  · rw [if_neg h]
    simp only [List.map_cons, List.map_nil, List.filter_cons, List.filter_nil, decide_eq_false h]
    rfl
theorem upTo_few (rs : List Int) (k : Nat) : (upTo rs k).length ≤ k := by
  unfold upTo
  refine Nat.le_trans (List.length_filter_le _ _) ?_
  rw [List.length_map, List.length_range]
  exact Nat.le_refl _
theorem upTo_mem {rs : List Int} {k : Nat} {n : Int} (h : n ∈ upTo rs k) : 1 ≤ n ∧ n ≤ k ∧ M85.Reach rs n n := by
  unfold upTo at h
  obtain ⟨m, r⟩ := List.mem_filter.mp h
  obtain ⟨i, mi, rfl⟩ := List.mem_map.mp m
  have := List.mem_range.mp mi
  exact ⟨by omega, by omega, by simpa using r⟩
open Classical in
theorem toldIn1 {d : Nat} (O : One ⟨#[d]⟩ d) {rs : List Int} (h : ∀ n ∈ rs, 1 ≤ n ∧ n ≤ 12) (k : Nat) : inOrder (toldIn (ys ⟨#[d]⟩ rs) (allOf ⟨#[d]⟩ k)) = ys ⟨#[d]⟩ (upTo rs k) := by
  have e : toldIn (ys ⟨#[d]⟩ rs) (allOf ⟨#[d]⟩ k) = ys ⟨#[d]⟩ (upTo rs k) := by
    unfold toldIn ys upTo
    rw [all1, show ((List.range k).map fun i : Nat => Txt.mul ⟨#[d]⟩ ((i + 1 : Nat) : Int)) = ((List.range k).map fun i : Nat => ((i + 1 : Nat) : Int)).map (fun l => Txt.mul ⟨#[d]⟩ l) by rw [List.map_map]; rfl, List.filter_map]
    congr 1
    refine List.filter_congr fun n m => ?_
    obtain ⟨i, _, rfl⟩ := List.mem_map.mp m
    show decide (Mw.Told (ys ⟨#[d]⟩ rs) (Txt.mul ⟨#[d]⟩ ((i + 1 : Nat) : Int))) = _
    exact decide_eq_decide.mpr (told1 O h _ (by omega))
  rw [e]
  unfold inOrder
  refine List.mergeSort_of_pairwise ?_
  unfold ys upTo
  refine List.pairwise_map.mpr ?_
  refine (List.Pairwise.filter _ ?_).imp_of_mem (R := fun a b : Int => a < b) ?_
  · refine List.pairwise_map.mpr (List.pairwise_lt_range.imp fun h => by omega)
  · intro a b ma mb lt
    obtain ⟨i, _, rfl⟩ := List.mem_map.mp (List.mem_filter.mp ma).1
    refine le_len ?_
    rw [mul1 O (by omega), mul1 O (by omega)]
    omega
/-! one watch left out -/
def butL (rs : List Int) (l : Int) : List Int := rs.filter fun n => !decide (n = l)
theorem others1 {y : Str} {c : Nat} (O : One y c) {rs : List Int} (h : ∀ n ∈ rs, 1 ≤ n ∧ n ≤ 12) {l : Int} (hl : 0 ≤ l) : others (ys y rs) (Txt.mul y l) = ys y (butL rs l) := by
  unfold others ys butL
  rw [List.filter_map]
  congr 1
  refine List.filter_congr fun n m => ?_
  show (!decide (Txt.mul y n = Txt.mul y l)) = _
  congr 1
  refine decide_eq_decide.mpr ⟨fun e => mul_inj O (by have := h n m; omega) hl e, fun e => by rw [e]⟩
theorem butL_mem {rs : List Int} {l n : Int} : n ∈ butL rs l ↔ n ∈ rs ∧ n ≠ l := by
  unfold butL
  rw [List.mem_filter]
  simp
theorem butL_drop {rs : List Int} {l : Int} (hr : ∀ n ∈ rs, 1 ≤ n ∧ n ≤ 12) (h : M85.Reach (butL rs l) l l) : ∀ n ∈ rs, M85.Reach (butL rs l) n n := fun n m => by
  by_cases e : n = l
  · rw [e]
    exact h
  · exact reach_self (butL_mem.mpr ⟨m, e⟩) (by have := hr n m; omega)
theorem reach_nil {n x : Int} (h : M85.Reach [] n x) : x = 0 := by
  cases h with
  | zero => rfl
  | step _ m => cases m
/-! further lengths that are told -/
open Classical in
noncomputable def mores (rs : List Int) (k : Nat) : List Int := (upTo rs k).filter fun n => !decide (n ∈ rs)
open Classical in
theorem mores_succ (rs : List Int) (k : Nat) : mores rs (k + 1) = mores rs k ++ if ((k + 1 : Nat) : Int) ∉ rs ∧ M85.Reach rs ((k + 1 : Nat) : Int) ((k + 1 : Nat) : Int) then [((k + 1 : Nat) : Int)] else [] := by
  unfold mores
  rw [upTo_succ, List.filter_append]
  congr 1
  by_cases h : M85.Reach rs ((k + 1 : Nat) : Int) ((k + 1 : Nat) : Int)
  · rw [if_pos h]
    by_cases m : ((k + 1 : Nat) : Int) ∈ rs
    · rw [if_neg (fun z => z.1 m), List.filter_cons, if_neg (by simpa using m)]
      rfl
    · rw [if_pos ⟨m, h⟩, List.filter_cons, if_pos (by simpa using m)]
      rfl
  · rw [if_neg h, if_neg (fun z => h z.2)]
    rfl
theorem mores_few (rs : List Int) (k : Nat) : (mores rs k).length ≤ k := Nat.le_trans (List.length_filter_le _ _) (upTo_few rs k)
theorem mores_mem {rs : List Int} {k : Nat} {n : Int} (h : n ∈ mores rs k) : 1 ≤ n ∧ n ≤ k ∧ n ∉ rs ∧ M85.Reach rs n n := by
  unfold mores at h
  obtain ⟨m, r⟩ := List.mem_filter.mp h
  have := upTo_mem m
  exact ⟨this.1, this.2.1, by simpa using r, this.2.2⟩

end
end W

namespace W
open PySem PySem.Spec PyProof.Rows L2
section
variable {P : Program} {w : World} {K : PySem.W.Frag} {mg : Str → Option Value} {base : Heap}
/-! ### the law -/
theorem mkB {C : Addr} {H : Hp} {Q : VK} {E : XK} {a : Addr} {ws : List Str} (h : H a = some (.lst (ws.map V.str))) (L : Watches ws) (k : ∀ b H', BookAt C H' b ws → Same H H' → Q (.ref b) H') : Rd.MkG C (sp_Book_init K C) [] E [.ref a] H Q := by
  refine Rd.mk fun b dx G nb nd ne gb s off => ?_
  exact ⟨b, a, ws, rfl, ⟨dx, gb⟩, .inl (.of (s _ _ h)), L, fun H' hB bt => ⟨rfl, k b H' hB fun q o e => bt q o (ne_of_none e nb) (s _ _ e)⟩⟩
theorem shaped_two (a r : List Bool) : SeqAt.shaped (.tuple [.list (a.map PyData.bool), .list (r.map PyData.bool)]) = true := by
  have h1 := shaped_bls a
  have h2 := shaped_bls r
  have d : ∀ bs : List Bool, PyData.depthAll (bs.map PyData.bool) = 0 := fun bs => by
    induction bs with
    | nil => rfl
    | cons b bs ih => show max 0 (PyData.depthAll (bs.map PyData.bool)) = 0; rw [ih]; rfl
  unfold SeqAt.shaped at h1 h2 ⊢
  rw [Bool.and_eq_true, decide_eq_true_iff] at h1 h2 ⊢
  refine ⟨?_, ?_⟩
  · show (PyData.canLay0 _ && (PyData.canLay0 _ && true)) = true
    rw [h1.1, h2.1]
    rfl
  · simp only [PyData.depth, PyData.depthAll, d]
    decide
theorem neTwo {K : PySem.W.Frag} {H : Hp} {p q a r a' r' : Addr} {ah rd : List Bool} {Q : VK} (h1 : H p = some (.tup [.ref a, .ref r])) (h2 : H q = some (.tup [.ref a', .ref r'])) (ga : H a = some (.lst (ah.map V.bl))) (gr : H r = some (.lst (rd.map V.bl))) (ga' : H a' = some (.lst (ah.map V.bl))) (gr' : H r' = some (.lst (rd.map V.bl))) (k : Q (.bl false) H) : rNeD K (.ref p) (.ref q) H Q := by
  have dp : ∀ {b x y}, H b = some (.tup [.ref x, .ref y]) → H x = some (.lst (ah.map V.bl)) → H y = some (.lst (rd.map V.bl)) → Dp K H (.ref b) (.tuple [.list (ah.map PyData.bool), .list (rd.map PyData.bool)]) := fun hb hx hy => .tup (.of hb) (.cons (.lst (.of hx) (dpAll_bls ah)) (.cons (.lst (.of hy) (dpAll_bls rd)) .nil))
  refine ⟨_, _, dp h1 ga gr, dp h2 ga' gr', shaped_two ah rd, shaped_two ah rd, ?_⟩
  rw [SeqAt.eqv_refl _ (SeqAt.canLay_of_shaped (shaped_two ah rd))]
  exact k
theorem abc_one {i : Int} (h0 : 0 ≤ i) (h1 : i < 26) : ∃ c, atI Lt.Abc.cps.toList i = some c ∧ c ∈ Lt.Abc.cps.toList := by
  have hl : Lt.Abc.cps.toList.length = 26 := by decide +kernel
  have hi : i.toNat < Lt.Abc.cps.toList.length := by omega
  exact ⟨_, Rd.atI_of h0 (List.getElem?_eq_getElem hi), List.getElem_mem hi⟩
/-- what stands from the book on -/
structure Sc (C : Addr) (H : Hp) (L bk : Addr) (y : Str) (ls : List Int) : Prop where
  gl : H L = some (.lst (ls.map V.int))
  hB : BookAt C H bk (ys y ls)
theorem Sc.same {C : Addr} {H H' : Hp} {L bk : Addr} {y : Str} {ls : List Int} (h : Sc C H L bk y ls) (s : Same H H') : Sc C H' L bk y ls := ⟨s _ _ h.gl, h.hB.same s⟩
theorem Sc.but {C : Addr} {H H' : Hp} {L bk t c : Addr} {y : Str} {ls : List Int} (h : Sc C H L bk y ls) (tp : Tape H t c) (n : L ≠ t) (s : Rd.But t H H') : Sc C H' L bk y ls := ⟨s _ _ n h.gl, h.hB.but tp s⟩
def sp_law (K : PySem.W.Frag) : Sp := fun vs H Q _ => ∃ (a : Addr) (ns : List Int), vs = [.ref a] ∧ SqL K H a (ns.map V.int) ∧ ns.length ≤ 63 ∧ ∀ H', Q (.bl true) H'
theorem ok_law (T : Txt K mg) : FnOk P w K mg base CX0 7 T.f_law T.fd_law ["_law_script"] (sp_law K) := by
  refine T.F_law.ok sc_law (fun vs H Q E h => ?_) (fun cdv A outer s H vs Q E hr h => ?_)
  · obtain ⟨a, ns, rfl, _⟩ := h
    rfl
  · obtain ⟨a, ns, rfl, ha, hn, k⟩ := h
    refine ⟨_, (pss_cons (ps_set (i := 1) sc_law.nd rfl (.inl rfl) (pe_call (ok_l_tape T) (hr.mono (by decide)) rfl T.g_l_tape T.F_l_tape.kp T.b_l_tape .nil pass0 (pa_cons (pv 0) pa_nil)))
  (pss_cons (ps_set (i := 2) sc_law.nd rfl (.inr rfl) (pe_ix ix_str pe_str (pe_call (ok_l_pick T) (hr.mono (by decide)) rfl T.g_l_pick T.F_l_pick.kp T.b_l_pick .nil pass0 (pa_cons (pv 1) (pa_cons pe_int pa_nil))) (fun _ _ => rfl)))
  (pss_cons (ps_set (i := 3) sc_law.nd rfl (.inr rfl) (pe_lst pa_nil))
  (pss_cons (ps_for PassesOwn.never rfl (pi_range1 rfl T.n_range (pa_cons (pe_op op_add pe_int (pe_call (ok_l_pick T) (hr.mono (by decide)) rfl T.g_l_pick T.F_l_pick.kp T.b_l_pick .nil pass0 (pa_cons (pv 1) (pa_cons pe_int pa_nil)))) pa_nil)) (pg_name (i := 4) sc_law.nd rfl (.inl rfl))
  (pss_cons (ps_set (i := 5) sc_law.nd rfl (.inl rfl) (pe_op op_add pe_int (pe_call (ok_l_pick T) (hr.mono (by decide)) rfl T.g_l_pick T.F_l_pick.kp T.b_l_pick .nil pass0 (pa_cons (pv 1) (pa_cons pe_int pa_nil)))))
  (pss_one (ps_if (pt_cmpR (r := rIn K true) op_notIn_seq (pv 5) (pv 3) (by rfl))
  (pss_one (ps_expr (pe_bm PySem.F.plainAttrs_list PySem.F.slot_list_append PySem.F.type_list_append mt_append (pv 3) (pa_cons (pv 5) pa_nil))))
  pss_nil))))
  (pss_cons (ps_set (i := 6) sc_law.nd rfl (.inl rfl) (pe_make T.M_Book (ok_Book_init T) (hr.mono (by decide)) rfl T.c_Book T.b_Book_init .nil pass0 (pa_cons (pe_lc (own := [("_law_length", 5)]) (g := gName 5) (tt := tYes) rfl sc_law.nd (pi_list (pv 3)) (blkOk_by (own := [("_law_length", 5)]) (N := ["_law_script", "_law_tape_here", "_law_letter", "_law_lengths_here", "_law_k", "_law_length", "_law_book", "_law_parts", "_law_before", "_law_middle", "_law_behind", "_law_told", "_law_times", "_law_whole", "_law_due", "_law_gaps", "_law_size", "_law_word", "_law_watch", "_law_rest", "_law_more", "_law_one"]) (sc := defScope s_law) (by decide +kernel)) (fun _ _ _ _ _ => (pg_name (i := 5) sc_law.nd rfl (.inl rfl))) (fun _ _ _ _ _ => pts_nil) (fun _ _ _ _ _ => (pe_op Rx.o_repS (pv 2) (pv 5)))) pa_nil)))
  (pss_cons (ps_set (i := 7) sc_law.nd rfl (.inl rfl) (pe_lst (pa_cons (pe_call (ok_l_pick T) (hr.mono (by decide)) rfl T.g_l_pick T.F_l_pick.kp T.b_l_pick .nil pass0 (pa_cons (pv 1) (pa_cons pe_int pa_nil))) (pa_cons (pe_op op_add pe_int (pe_call (ok_l_pick T) (hr.mono (by decide)) rfl T.g_l_pick T.F_l_pick.kp T.b_l_pick .nil pass0 (pa_cons (pv 1) (pa_cons (pe_ix (r := rIxL K) ix_list (pe_lst (pa_cons pe_int (pa_cons pe_int pa_nil))) (pe_call (ok_l_pick T) (hr.mono (by decide)) rfl T.g_l_pick T.F_l_pick.kp T.b_l_pick .nil pass0 (pa_cons (pv 1) (pa_cons pe_int pa_nil))) (fun _ _ => rfl)) pa_nil)))) (pa_cons (pe_call (ok_l_pick T) (hr.mono (by decide)) rfl T.g_l_pick T.F_l_pick.kp T.b_l_pick .nil pass0 (pa_cons (pv 1) (pa_cons pe_int pa_nil))) pa_nil)))))
  (C8.pss_cut (ps_if (pt_cmpR op_eq (pe_call (ok_l_pick T) (hr.mono (by decide)) rfl T.g_l_pick T.F_l_pick.kp T.b_l_pick .nil pass0 (pa_cons (pv 1) (pa_cons pe_int pa_nil))) pe_int (nomark _))
  (pss_one (ps_set (i := 7) sc_law.nd rfl (.inl rfl) (pe_lst (pa_cons (pe_call (ok_l_pick T) (hr.mono (by decide)) rfl T.g_l_pick T.F_l_pick.kp T.b_l_pick .nil pass0 (pa_cons (pv 1) (pa_cons pe_int pa_nil))) (pa_cons (pe_ix (r := rIxL K) ix_list (pv 7) pe_int (fun _ _ => rfl)) (pa_cons (pe_call (ok_l_pick T) (hr.mono (by decide)) rfl T.g_l_pick T.F_l_pick.kp T.b_l_pick .nil pass0 (pa_cons (pv 1) (pa_cons pe_int pa_nil))) pa_nil))))))
  pss_nil)
  (pss_cons (ps_set (i := 8) sc_law.nd rfl (.inl rfl) (pe_op Rx.o_repS (pv 2) (pe_ix (r := rIxL K) ix_list (pv 7) pe_int (fun _ _ => rfl))))
  (pss_cons (ps_set (i := 9) sc_law.nd rfl (.inl rfl) (pe_op Rx.o_repS (pv 2) (pe_ix (r := rIxL K) ix_list (pv 7) pe_int (fun _ _ => rfl))))
  (pss_cons (ps_set (i := 10) sc_law.nd rfl (.inl rfl) (pe_op Rx.o_repS (pv 2) (pe_ix (r := rIxL K) ix_list (pv 7) pe_int (fun _ _ => rfl))))
  (pss_cons (ps_set (i := 11) sc_law.nd rfl (.inl rfl) (pe_call (ok_powers T) (hr.mono (by decide)) rfl T.g_powers T.F_powers.kp T.b_powers .nil pass0 (pa_cons (pv 6) (pa_cons (pv 8) (pa_cons (pv 9) (pa_cons (pv 10) pa_nil))))))
  (pss_cons (ps_for PassesOwn.never rfl (pi_list (pe_op op_cat (pe_listRg rfl (by rfl) T.n_list (prg_2 (by rfl) T.n_range pe_int pe_int)) (pe_lst (pa_cons (pe_op op_pow pe_int pe_int) (pa_cons (pe_op op_add pe_int (pe_op op_mulW (pe_call (ok_l_pick T) (hr.mono (by decide)) rfl T.g_l_pick T.F_l_pick.kp T.b_l_pick .nil pass0 (pa_cons (pv 1) (pa_cons (pe_op op_pow pe_int pe_int) pa_nil))) (pe_op op_pow pe_int pe_int))) pa_nil))))) (pg_name (i := 12) sc_law.nd rfl (.inl rfl))
  (pss_cons (ps_set (i := 13) sc_law.nd rfl (.inl rfl) (pe_op op_add (pe_op op_add (pe_ix (r := rIxL K) ix_list (pv 7) pe_int (fun _ _ => rfl)) (pe_op op_mulW (pe_ix (r := rIxL K) ix_list (pv 7) pe_int (fun _ _ => rfl)) (pv 12))) (pe_ix (r := rIxL K) ix_list (pv 7) pe_int (fun _ _ => rfl))))
  (pss_cons (ps_set (i := 14) sc_law.nd rfl (.inl rfl) (pe_cmpR op_eq (pe_op op_mod (pe_callTy (T := "int") (r := _) Rd.c_int (by rfl) T.n_int (by decide +kernel) (pa_cons (pv 13) pa_nil)) (pe_call (ok_l_divisor T) (hr.mono (by decide)) rfl T.g_l_divisor T.F_l_divisor.kp T.b_l_divisor .nil pass0 (pa_cons (pv 3) pa_nil))) pe_int (nomark _)))
  (C8.pss_cut (ps_if (pt_cmpR op_lt (pv 13) pe_int (nomark _))
  (pss_one (ps_set (i := 14) sc_law.nd rfl (.inl rfl) (pe_call (ok_l_reach T) (hr.mono (by decide)) rfl T.g_l_reach T.F_l_reach.kp T.b_l_reach .nil pass0 (pa_cons (pv 3) (pa_cons (pv 13) pa_nil)))))
  pss_nil)
  (pss_cons (ps_if (PW.pt (pw_or (pt_not (pt_val (pe_call (ok_l_flag T) (hr.mono (by decide)) rfl T.g_l_flag T.F_l_flag.kp T.b_l_flag .nil pass0 (pa_cons (pe_call (ok_l_flag_at T) (hr.mono (by decide)) rfl T.g_l_flag_at T.F_l_flag_at.kp T.b_l_flag_at .nil pass0 (pa_cons (pv 11) (pa_cons (pv 12) pa_nil))) (pa_cons (pv 14) pa_nil))))) (pw_or1 (pt_not (pt_val (pe_call (ok_l_flag T) (hr.mono (by decide)) rfl T.g_l_flag T.F_l_flag.kp T.b_l_flag .nil pass0 (pa_cons (pe_call (ok_lone_told T) (hr.mono (by decide)) rfl T.g_lone_told T.F_lone_told.kp T.b_lone_told .nil pass0 (pa_cons (pv 3) (pa_cons (pv 13) pa_nil))) (pa_cons (pv 14) pa_nil))))))))
  (pss_one (ps_ret pe_bl))
  pss_nil)
  (pss_one (ps_if (pt_not (pt_val (pe_call (ok_l_flag T) (hr.mono (by decide)) rfl T.g_l_flag T.F_l_flag.kp T.b_l_flag .nil pass0 (pa_cons (pe_call (ok_far_told T) (hr.mono (by decide)) rfl T.g_far_told T.F_far_told.kp T.b_far_told .nil pass0 (pa_cons (pv 6) (pa_cons (pv 8) (pa_cons (pv 9) (pa_cons (pv 10) (pa_cons (pv 12) pa_nil)))))) (pa_cons (pv 14) pa_nil)))))
  (pss_one (ps_ret pe_bl))
  pss_nil)))))))
  (pss_cons (ps_set (i := 15) sc_law.nd rfl (.inl rfl) (pe_call (ok_lone_gaps T) (hr.mono (by decide)) rfl T.g_lone_gaps T.F_lone_gaps.kp T.b_lone_gaps .nil pass0 (pa_cons (pv 3) pa_nil)))
  (pss_cons (ps_set (i := 16) sc_law.nd rfl (.inl rfl) (pe_op op_add pe_int (pe_call (ok_l_pick T) (hr.mono (by decide)) rfl T.g_l_pick T.F_l_pick.kp T.b_l_pick .nil pass0 (pa_cons (pv 1) (pa_cons pe_int pa_nil)))))
  (pss_cons (ps_set (i := 17) sc_law.nd rfl (.inl rfl) (pe_op Rx.o_repS (pv 2) (pv 16)))
  (C8.pss_cut (ps_set (i := 14) sc_law.nd rfl (.inl rfl) (pe_and (pe_cmpR (r := rIn K true) op_notIn_seq (pv 16) (pv 15) (by rfl)) (pe_one (pe_cmpR op_eq (pe_op op_mod (pe_callTy (T := "int") (r := _) Rd.c_int (by rfl) T.n_int (by decide +kernel) (pa_cons (pv 16) pa_nil)) (pe_call (ok_l_divisor T) (hr.mono (by decide)) rfl T.g_l_divisor T.F_l_divisor.kp T.b_l_divisor .nil pass0 (pa_cons (pv 3) pa_nil))) pe_int (nomark _)))))
  (pss_cons (ps_if (PW.pt (pw_or (pt_not (pt_val (pe_call (ok_l_flag T) (hr.mono (by decide)) rfl T.g_l_flag T.F_l_flag.kp T.b_l_flag .nil pass0 (pa_cons (pe_call (ok_is_told T) (hr.mono (by decide)) rfl T.g_is_told T.F_is_told.kp T.b_is_told .nil pass0 (pa_cons (pv 6) (pa_cons (pv 17) pa_nil))) (pa_cons (pv 14) pa_nil))))) (pw_or1 (pt_cmpR op_ne (pe_cmpR op_notN (pe_call (ok_zigzag T) (hr.mono (by decide)) rfl T.g_zigzag T.F_zigzag.kp T.b_zigzag .nil pass0 (pa_cons (pv 6) (pa_cons (pv 17) pa_nil))) pe_non (nomark _)) (pv 14) (nomark _)))))
  (pss_one (ps_ret pe_bl))
  pss_nil)
  (pss_cons (ps_if (pt_cmpR (r := rNeD K) (op_neD hr.units) (pe_call (ok_told_words T) (hr.mono (by decide)) rfl T.g_told_words T.F_told_words.kp T.b_told_words .nil pass0 (pa_cons (pv 6) (pa_cons (pv 2) (pa_cons pe_int pa_nil)))) (pe_lc (own := [("_law_k", 4)]) (g := gName 4)  rfl sc_law.nd (pi_range2 rfl T.n_range (pa_cons pe_int (pa_cons pe_int pa_nil))) (blkOk_by (own := [("_law_k", 4)]) (N := ["_law_script", "_law_tape_here", "_law_letter", "_law_lengths_here", "_law_k", "_law_length", "_law_book", "_law_parts", "_law_before", "_law_middle", "_law_behind", "_law_told", "_law_times", "_law_whole", "_law_due", "_law_gaps", "_law_size", "_law_word", "_law_watch", "_law_rest", "_law_more", "_law_one"]) (sc := defScope s_law) (by decide +kernel)) (fun _ _ _ _ _ => (pg_name (i := 4) sc_law.nd rfl (.inl rfl))) (fun _ _ _ _ _ => pts_one (pt_val (pe_call (ok_l_reach T) (hr.mono (by decide)) rfl T.g_l_reach T.F_l_reach.kp T.b_l_reach .nil pass0 (pa_cons (pv 3) (pa_cons (pv 4) pa_nil))))) (fun _ _ _ _ _ => (pe_op Rx.o_repS (pv 2) (pv 4)))) (nomark _))
  (pss_one (ps_ret pe_bl))
  pss_nil)
  (pss_cons (ps_for PassesOwn.never rfl (pi_list (pe_call (ok_needless T) (hr.mono (by decide)) rfl T.g_needless T.F_needless.kp T.b_needless .nil pass0 (pa_cons (pv 6) pa_nil))) (pg_name (i := 18) sc_law.nd rfl (.inr rfl))
  (pss_cons (ps_setLc (i := 19) (own := [("_law_length", 5)]) (g := gName 5)  rfl sc_law.nd rfl rfl (sw_true rfl rfl rfl (by decide +kernel)) (pi_list (pv 3)) (blkOk_by (own := [("_law_length", 5)]) (N := ["_law_script", "_law_tape_here", "_law_letter", "_law_lengths_here", "_law_k", "_law_length", "_law_book", "_law_parts", "_law_before", "_law_middle", "_law_behind", "_law_told", "_law_times", "_law_whole", "_law_due", "_law_gaps", "_law_size", "_law_word", "_law_watch", "_law_rest", "_law_more", "_law_one"]) (sc := defScope s_law) (by decide +kernel)) (fun _ _ _ _ _ => (pg_name (i := 5) sc_law.nd rfl (.inl rfl))) (fun _ _ _ _ _ => pts_one (pt_cmpR op_ne (pv 5) (pe_callB (id := "len") (r := _) Rd.c_lenS (by rfl) T.n_len (by decide +kernel) (pa_cons (pv 18) pa_nil)) (nomark _))) (fun _ _ _ _ _ => (pv 5)))
  (pss_cons (ps_if (pt_not (pt_val (pe_call (ok_l_flag T) (hr.mono (by decide)) rfl T.g_l_flag T.F_l_flag.kp T.b_l_flag .nil pass0 (pa_cons (pe_call (ok_tells T) (hr.mono (by decide)) rfl T.g_tells T.F_tells.kp T.b_tells .nil pass0 (pa_cons (pe_make T.M_Book (ok_Book_init T) (hr.mono (by decide)) rfl T.c_Book T.b_Book_init .nil pass0 (pa_cons (pe_lc (own := [("_law_length", 5)]) (g := gName 5) (tt := tYes) rfl sc_law.nd (pi_list (pv 19)) (blkOk_by (own := [("_law_length", 5)]) (N := ["_law_script", "_law_tape_here", "_law_letter", "_law_lengths_here", "_law_k", "_law_length", "_law_book", "_law_parts", "_law_before", "_law_middle", "_law_behind", "_law_told", "_law_times", "_law_whole", "_law_due", "_law_gaps", "_law_size", "_law_word", "_law_watch", "_law_rest", "_law_more", "_law_one"]) (sc := defScope s_law) (by decide +kernel)) (fun _ _ _ _ _ => (pg_name (i := 5) sc_law.nd rfl (.inl rfl))) (fun _ _ _ _ _ => pts_nil) (fun _ _ _ _ _ => (pe_op Rx.o_repS (pv 2) (pv 5)))) pa_nil)) (pa_cons (pe_lst (pa_cons (pv 17) pa_nil)) pa_nil))) (pa_cons (pv 14) pa_nil)))))
  (pss_one (ps_ret pe_bl))
  pss_nil)
  (pss_one (ps_if (pt_cmpR (r := rNeD K) (op_neD hr.units) (pe_call (ok_lone_gaps T) (hr.mono (by decide)) rfl T.g_lone_gaps T.F_lone_gaps.kp T.b_lone_gaps .nil pass0 (pa_cons (pv 19) pa_nil)) (pv 15) (nomark _))
  (pss_one (ps_ret pe_bl))
  pss_nil)))))
  (pss_cons (ps_setLc (i := 20) (own := [("_law_length", 5)]) (g := gName 5)  rfl sc_law.nd rfl rfl (sw_true rfl rfl rfl (by decide +kernel)) (pi_range2 rfl T.n_range (pa_cons pe_int (pa_cons pe_int pa_nil))) (blkOk_by (own := [("_law_length", 5)]) (N := ["_law_script", "_law_tape_here", "_law_letter", "_law_lengths_here", "_law_k", "_law_length", "_law_book", "_law_parts", "_law_before", "_law_middle", "_law_behind", "_law_told", "_law_times", "_law_whole", "_law_due", "_law_gaps", "_law_size", "_law_word", "_law_watch", "_law_rest", "_law_more", "_law_one"]) (sc := defScope s_law) (by decide +kernel)) (fun _ _ _ _ _ => (pg_name (i := 5) sc_law.nd rfl (.inl rfl))) (fun _ _ _ _ _ => pts_one (PW.pt (pw_and (pt_cmpR (r := rIn K true) op_notIn_seq (pv 5) (pv 3) (by rfl)) (pw_and1 (pt_val (pe_call (ok_lone_told T) (hr.mono (by decide)) rfl T.g_lone_told T.F_lone_told.kp T.b_lone_told .nil pass0 (pa_cons (pv 3) (pa_cons (pv 5) pa_nil)))))))) (fun _ _ _ _ _ => (pv 5)))
  (C8.pss_cut (ps_if (PW.pt (pw_and (pt_cmpR op_gt (pe_callB (id := "len") (r := Rd.nLen K) Rd.c_len (by rfl) T.n_len (by decide +kernel) (pa_cons (pv 20) pa_nil)) pe_int (nomark _)) (pw_and1 (pt_cmpR op_lt (pe_callB (id := "len") (r := Rd.nLen K) Rd.c_len (by rfl) T.n_len (by decide +kernel) (pa_cons (pv 3) pa_nil)) pe_int (nomark _)))))
  (pss_cons (ps_set (i := 21) sc_law.nd rfl (.inl rfl) (pe_ix (r := rIxL K) ix_list (pv 20) (pe_call (ok_l_pick T) (hr.mono (by decide)) rfl T.g_l_pick T.F_l_pick.kp T.b_l_pick .nil pass0 (pa_cons (pv 1) (pa_cons (pe_callB (id := "len") (r := Rd.nLen K) Rd.c_len (by rfl) T.n_len (by decide +kernel) (pa_cons (pv 20) pa_nil)) pa_nil))) (fun _ _ => rfl)))
  (pss_one (ps_if (PW.pt (pw_or (pt_cmpR (r := rNeD K) (op_neD hr.units) (pe_call (ok_lone_gaps T) (hr.mono (by decide)) rfl T.g_lone_gaps T.F_lone_gaps.kp T.b_lone_gaps .nil pass0 (pa_cons (pe_op op_cat (pv 3) (pe_lst (pa_cons (pv 21) pa_nil))) pa_nil)) (pv 15) (nomark _)) (pw_or1 (pt_cmpR (r := rNeD K) (op_neD hr.units) (pe_call (ok_powers T) (hr.mono (by decide)) rfl T.g_powers T.F_powers.kp T.b_powers .nil pass0 (pa_cons (pe_meth (pv 6) T.cl_Book T.h_Book_with_watch (ok_Book_with_watch T) (hr.mono (by decide)) T.b_Book_with_watch .nil pass0 (pa_cons (pe_op Rx.o_repS (pv 2) (pv 21)) pa_nil)) (pa_cons (pv 8) (pa_cons (pv 9) (pa_cons (pv 10) pa_nil))))) (pv 11) (nomark _)))))
  (pss_one (ps_ret pe_bl))
  pss_nil)))
  pss_nil)
  (pss_one (ps_ret pe_bl))))))))))))))))))))))), ?_⟩
    walk_at "rd"
    refine ⟨a, ns, rfl, ha, fun t c H1 tp1 s1 _ _ => ?_⟩
    clear s1
    walk_at "rd"
    refine pickR tp1 (by decide) (by decide) fun r0 H2 r00 r01 tp2 _ => ?_
    obtain ⟨d, ed, hd⟩ := abc_one r00 r01
    refine Rd.ixS (by decide +kernel) ed ?_
    have O : One ⟨#[d]⟩ d := one_of hd
    obtain ⟨y, ey⟩ : ∃ y : Str, y = ⟨#[d]⟩ := ⟨_, rfl⟩
    rw [← ey] at O ⊢
    walk_at "rd"
    refine ⟨Nat.zero_le _, Rd.new fun L H3 nl gl s3 => ?_⟩
    have tp3 := tp2.same s3
    obtain ⟨Lt, Lc⟩ := tp2.new nl
    clear nl s3 tp2 tp1
    walk_at "rd"
    refine Rd.forS ?_
    walk_at "rd"
    refine pickR tp3 (by decide) (by decide) fun r1 H4 r10 r11 tp4 b4 => ?_
    have gl4 := b4 _ _ Lt gl
    clear gl tp3 b4
    walk_at "rd"
    refine ⟨by omega, by omega, ?_⟩
    refine for_range (lo := 0) (n := (1 + r1).toNat) (fun i σ H' => ∃ (ls : List Int) (o4 o5 : Option V), σ = [some (.ref a), some (.ref t), some (.str y), some (.ref L), o4, o5, none, none, none, none, none, none, none, none, none, none, none, none, none, none, none, none] ∧ Tape H' t c ∧ H' L = some (.lst (ls.map V.int)) ∧ ls.Nodup ∧ (∀ n ∈ ls, 1 ≤ n ∧ n ≤ 12) ∧ ls.length ≤ i ∧ (1 ≤ i → 1 ≤ ls.length))
      ⟨[], _, _, rfl, tp4, gl4, .nil, fun n m => (nomatch m), Nat.le_refl _, fun q => absurd q (by decide)⟩ ?_ ?_
    · clear gl4 tp4
      rintro i _ H4 hi ⟨ls, o4, o5, rfl, tp4, gl4, nd, hl, ll, l1⟩
      walk_at "rd"
      refine pickR tp4 (by decide) (by decide) fun x H5 x0 x1 tp5 b5 => ?_
      have gl5 := b5 _ _ Lt gl4
      walk_at "rd"
      refine Rd.inIntsN (.inl (.of gl5)) ?_
      by_cases q : 1 + x ∈ ls
      · rw [decide_eq_true q]
        walk_at "rd"
        exact ⟨ls, _, _, rfl, tp5, gl5, nd, hl, by omega, fun _ => List.length_pos_of_mem q⟩
      · rw [decide_eq_false q]
        walk_at "rd"
        refine Rd.tyL (.of gl5) ?_
        walk_at "rd"
        refine Rd.app gl5 (by rw [List.length_map, sizeLine_eq]; omega) fun H6 g6 off6 => ?_
        walk_at "rd"
        refine ⟨ls ++ [1 + x], _, _, rfl, tp5.off Lt Lc off6, by rw [List.map_append]; exact g6, snoc_nodup nd q, fun n m => ?_, by rw [List.length_append]; show _ + 1 ≤ _; omega, fun _ => by rw [List.length_append]; show 1 ≤ _ + 1; omega⟩
        rcases List.mem_append.mp m with m | m
        · exact hl n m
        · rw [List.mem_singleton.mp m]
          omega
    rintro _ H5 ⟨ls, o4, o5, rfl, tp5, gl5, nd, hl, ll, l1⟩
    clear gl4 tp4
    have L0 : 1 ≤ ls.length := l1 (by omega)
    have L6 : ls.length ≤ 6 := by omega
    have LL : Lens ls := ⟨L0, by omega, fun n m => by have := hl n m; omega⟩
    have W := watches1 O nd hl (by omega)
    have hW' : ∀ V ∈ ys y ls, 1 ≤ V.length ∧ V.length ≤ 12 := fun V m => by have := W.ok V m; have := this.l0; have := (W.ok V m).l1; omega
    have ⟨g0, g1⟩ := gcdL_pos LL
    clear l1 ll
    walk_at "rd"
    refine ⟨⟨_, .of gl5⟩, Rd.lcS walk_list (fun _ s => .of (s _ _ gl5)) (fun D i acc _ => acc = ((ls.take i).map fun l => Txt.mul y l).map V.str) (fun _ _ _ _ _ => rfl) ?_ ?_⟩
    · rintro D i x G _ acc nD hi hD sm rfl ⟨rfl, hx⟩
      obtain ⟨n, hn, rfl⟩ := Rd.map_get hx
      have hn2 := hl n (List.mem_of_getElem? hn)
      walk_at "rd"
      refine ⟨rfl, ?_⟩
      walk_at "rd"
      refine Rx.repS (ok1 O (by omega) (by omega)) ?_
      refine Rd.lcPush hD nD sm (by rw [List.length_map, List.length_map, List.length_take, sizeLine_eq]; omega) fun G4 _ _ => ?_
      rw [Rd.take_snoc hn, List.map_append, List.map_append]
      rfl
    rintro D acc G nD hD sm rfl
    rw [List.length_map, List.take_length] at hD
    walk_at "rd"
    refine mkB (ws := ys y ls) hD W fun bk H6 hB s6 => ?_
    have S6 : Sc T.C_Book H6 L bk y ls := ⟨s6 _ _ (sm _ _ gl5), hB⟩
    have tp6 := (tp5.same sm).same s6
    clear hD nD sm s6 hB gl5 tp5
    walk_at "rd"
    refine pickR tp6 (by decide) (by decide) fun p0 H7 p00 p01 tp7 b7 => ?_
    have S7 := S6.but tp6 Lt b7
    clear S6 b7 tp6
    walk_at "rd"
    refine ⟨Nat.le_of_ble_eq_true rfl, Rd.new fun q8 H8 nq8 gq8 s8 => ?_⟩
    have q8t := (tp7.new nq8).1
    have tp8 := tp7.same s8
    have S8 := S7.same s8
    clear S7 s8 tp7 nq8
    walk_at "rd"
    refine pickR tp8 (by decide) (by decide) fun r9 H9 r90 r91 tp9 b9 => ?_
    have S9 := S8.but tp8 Lt b9
    have gq9 := b9 _ _ q8t gq8
    clear S8 b9 gq8 tp8
    obtain ⟨m9, e9, m90, m91⟩ : ∃ m : Int, atI [V.int 3, V.int 20] r9 = some (.int m) ∧ 1 ≤ m ∧ m ≤ 20 := by
      rcases (show r9 = 0 ∨ r9 = 1 by omega) with e | e <;> rw [e]
      · exact ⟨3, rfl, by decide, by decide⟩
      · exact ⟨20, rfl, by decide, by decide⟩
    refine Rd.ixL (.of gq9) e9 ?_
    walk_at "rd"
    refine pickR tp9 (by omega) (by omega) fun p1 HA p10 p11 tpA bA => ?_
    have SA := S9.but tp9 Lt bA
    clear S9 bA gq9 tp9 q8t
    walk_at "rd"
    refine pickR tpA (by decide) (by decide) fun p2 HB p20 p21 tpB bB => ?_
    have SB := SA.but tpA Lt bB
    clear SA bB tpA
    walk_at "rd"
    refine ⟨Nat.le_of_ble_eq_true rfl, Rd.new fun P HC nP gP sC => ?_⟩
    have tpC := tpB.same sC
    have SC := SB.same sC
    have Pt := (tpB.new nP).1
    clear SB sC tpB nP
    refine Rd.cut (fun σ H' => ∃ (P : Addr) (x0 x1 x2 : Int), σ = [some (.ref a), some (.ref t), some (.str y), some (.ref L), o4, o5, some (.ref bk), some (.ref P), none, none, none, none, none, none, none, none, none, none, none, none, none, none] ∧ Tape H' t c ∧ Sc T.C_Book H' L bk y ls ∧ H' P = some (.lst [.int x0, .int x1, .int x2]) ∧ P ≠ t ∧ 0 ≤ x0 ∧ x0 ≤ 20 ∧ 1 ≤ x1 ∧ x1 ≤ 20 ∧ 0 ≤ x2 ∧ x2 ≤ 20) ?_ ?_
    · walk_at "rd"
      refine pickR tpC (by decide) (by decide) fun r10 HD r100 r101 tpD bD => ?_
      have SD := SC.but tpC Lt bD
      have gD := bD _ _ Pt gP
      walk_at "rd"
      refine ite2 (fun q => ?_) (fun q => ?_)
      · walk_at "rd"
        refine pickR tpD (by decide) (by decide) fun p3 HE p30 p31 tpE bE => ?_
        have SE := SD.but tpD Lt bE
        have gE := bE _ _ Pt gD
        walk_at "rd"
        refine Rd.ixL (.of gE) (Rd.atI_of (by decide) rfl) ?_
        walk_at "rd"
        refine pickR tpE (by decide) (by decide) fun p4 HF p40 p41 tpF bF => ?_
        have SF := SE.but tpE Lt bF
        walk_at "rd"
        refine ⟨Nat.le_of_ble_eq_true rfl, Rd.new fun P2 HG nP2 gP2 sG => ?_⟩
        walk_at "rd"
        exact ⟨P2, _, _, _, rfl, tpF.same sG, SF.same sG, gP2, (tpF.new nP2).1, by omega, by omega, by omega, by omega, by omega, by omega⟩
      · walk_at "rd"
        exact ⟨P, _, _, _, rfl, tpD, SD, gD, Pt, by omega, by omega, by omega, by omega, by omega, by omega⟩
    clear SC tpC gP Pt p00 p01 p10 p11 p20 p21
    rintro _ HC ⟨P, x0, x1, x2, rfl, tpC, SC, gP, Pt, x00, x01, x10, x11, x20, x21⟩
    walk_at "rd"
    refine Rd.ixL (.of gP) (Rd.atI_of (by decide) rfl) ?_
    walk_at "rd"
    refine Rx.repS (ok1 O (by omega) (by omega)) ?_
    walk_at "rd"
    refine Rd.ixL (.of gP) (Rd.atI_of (by decide) rfl) ?_
    walk_at "rd"
    refine Rx.repS (ok1 O (by omega) (by omega)) ?_
    walk_at "rd"
    refine Rd.ixL (.of gP) (Rd.atI_of (by decide) rfl) ?_
    walk_at "rd"
    refine Rx.repS (ok1 O (by omega) (by omega)) ?_
    walk_at "rd"
    have PO : PartsOk (Txt.mul y x0) (Txt.mul y x1) (Txt.mul y x2) := ⟨let1 O (by omega), let1 O (by omega), let1 O (by omega), by rw [mul1 O (by omega)]; omega, by rw [mul1 O (by omega)]; omega, by rw [mul1 O (by omega)]; omega, by rw [mul1 O (by omega)]; omega⟩
    refine ⟨bk, ys y ls, _, _, _, rfl, SC.hB, hW', PO, fun q a1 ra ah rd HD sD na nr ar gq ga gr F => ?_⟩
    have r1p := F.rep.pos
    have tpD := tpC.same sD
    have SD := SC.same sD
    have a1t : a1 ≠ t := (tpC.new na).1
    have rat : ra ≠ t := (tpC.new nr).1
    have qt : q ≠ t := fun z => by
      obtain ⟨_, _, _, _, _, _, gt, _⟩ := tpD
      rw [z, gt] at gq
      cases gq
    have gPD := sD _ _ gP
    clear sD na nr tpC SC gP
    walk_at "rd"
    refine Rd.forS ?_
    walk_at "rd"
    refine ⟨⟨by decide, by decide, by decide, by decide⟩, Rd.new fun z1 HE n1 gz1 sE => ?_⟩
    rw [show rgV 1 16 = [V.int 1, .int 2, .int 3, .int 4, .int 5, .int 6, .int 7, .int 8, .int 9, .int 10, .int 11, .int 12, .int 13, .int 14, .int 15] from rfl] at gz1
    have tpE := tpD.same sE
    have SE := SD.same sE
    have gPE := sE _ _ gPD
    have gqE := sE _ _ gq
    have gaE := sE _ _ ga
    have grE := sE _ _ gr
    have z1t := (tpD.new n1).1
    clear sE n1 tpD SD gPD gq ga gr
    have e28 : (10 : Int) ^ Int.toNat 28 = 10000000000000000000000000000 := by decide
    have e6 : (10 : Int) ^ Int.toNat 6 = 1000000 := by decide
    have e20 : (10 : Int) ^ Int.toNat 20 = 100000000000000000000 := by decide
    walk_at "rd"
    refine Rd.iC ⟨by decide, by decide, by decide⟩ ?_
    rw [e28]
    walk_at "rd"
    refine Rd.iC ⟨by decide, by decide, by decide⟩ ?_
    rw [e6]
    walk_at "rd"
    refine pickR tpE (by decide) (by decide) fun r12 HF r120 r121 tpF bF => ?_
    have SF := SE.but tpE Lt bF
    have gPF := bF _ _ Pt gPE
    have gqF := bF _ _ qt gqE
    have gaF := bF _ _ a1t gaE
    have grF := bF _ _ rat grE
    have gzF := bF _ _ z1t gz1
    clear bF tpE SE gPE gqE gaE grE gz1
    walk_at "rd"
    refine Rd.iC ⟨by decide, by decide, by decide⟩ ?_
    rw [e20]
    refine Rd.iC (wide_mul (a := 30) (b := 200) (by omega) (by decide) (by decide) (by decide) (by decide)) ?_
    walk_at "rd"
    refine ⟨Nat.le_of_ble_eq_true rfl, Rd.new fun z2 HG n2 gz2 sG => ?_⟩
    refine Rd.cat (sG _ _ gzF) gz2 (Nat.le_of_ble_eq_true rfl) (Rd.new fun z3 HH n3 gz3 sH => ?_)
    have sF := sG.trans sH
    have tpH := tpF.same sF
    have SH := SF.same sF
    have gPH := sF _ _ gPF
    have gqH := sF _ _ gqF
    have gaH := sF _ _ gaF
    have grH := sF _ _ grF
    clear sF sG sH tpF SF gPF gqF gaF grF gzF gz2 n2 n3
    walk_at "rd"
    have all : ∀ v ∈ [V.int 1, .int 2, .int 3, .int 4, .int 5, .int 6, .int 7, .int 8, .int 9, .int 10, .int 11, .int 12, .int 13, .int 14, .int 15] ++ [V.int 10000000000000000000000000000, V.int (1 + r12 * 100000000000000000000)], ∃ n : Int, v = .int n ∧ 1 ≤ n ∧ n ≤ 10000000000000000000000000000 := by
      intro v hv
      simp only [List.mem_append, List.mem_cons, List.not_mem_nil, or_false] at hv
      rcases hv with (rfl | rfl | rfl | rfl | rfl | rfl | rfl | rfl | rfl | rfl | rfl | rfl | rfl | rfl | rfl) | rfl | rfl <;> exact ⟨_, rfl, by omega, by omega⟩
    generalize [V.int 1, .int 2, .int 3, .int 4, .int 5, .int 6, .int 7, .int 8, .int 9, .int 10, .int 11, .int 12, .int 13, .int 14, .int 15] ++ [V.int 10000000000000000000000000000, V.int (1 + r12 * 100000000000000000000)] = zs at all gz3
    clear r120 r121 e28 e6 e20
    refine ⟨⟨_, .of gz3⟩, for_list (K := K) (a := z3) (xs := zs) (fun i σ H' => ∃ o12 o13 o14 : Option V, σ = [some (.ref a), some (.ref t), some (.str y), some (.ref L), o4, o5, some (.ref bk), some (.ref P), some (.str (Txt.mul y x0)), some (.str (Txt.mul y x1)), some (.str (Txt.mul y x2)), some (.ref q), o12, o13, o14, none, none, none, none, none, none, none] ∧ Same HH H') ⟨_, _, _, rfl, Same.refl _⟩ (fun i σ H' _ ⟨_, _, _, _, s⟩ => .of (s _ _ gz3)) ?_ ?_⟩
    · rintro i v _ J1 hv ⟨o12, o13, o14, rfl, s1⟩
      obtain ⟨n, rfl, n1, n28⟩ := all v (List.mem_of_getElem? hv)
      have gP1 := s1 _ _ gPH
      have S1 := SH.same s1
      have fl := flag1 O hl x00 (show 0 ≤ x1 by omega) x20 n1
      walk_at "rd"
      refine Rd.ixL (.of gP1) (Rd.atI_of (by decide) rfl) ?_
      walk_at "rd"
      refine Rd.ixL (.of gP1) (Rd.atI_of (by decide) rfl) ?_
      walk_at "rd"
      refine Rd.iC (wide_mul (a := 30) (b := 200) (by omega) (Nat.lt_of_le_of_lt (show n.natAbs ≤ 10000000000000000000000000000 by omega) (by decide)) (by decide) (by decide) (by decide)) ?_
      have m1 : 1 ≤ x1 * n := Int.mul_le_mul x10 n1 (by decide) (by omega)
      have m2 : x1 * n ≤ 20 * 10000000000000000000000000000 := Int.mul_le_mul x11 n28 (by omega) (by decide)
      generalize x1 * n = m at m1 m2 fl
      walk_at "rd"
      refine Rd.ixL (.of gP1) (Rd.atI_of (by decide) rfl) ?_
      walk_at "rd"
      obtain ⟨W0, e0⟩ : ∃ W0 : Int, W0 = x0 + m + x2 := ⟨_, rfl⟩
      rw [← e0] at fl ⊢
      have w1 : 1 ≤ W0 := by omega
      have w30 : W0 ≤ 10 ^ 30 := by omega
      refine ⟨L, ls, rfl, .of S1.gl, fun n m => by have := hl n m; omega, fun J2 s2 => ?_⟩
      have s12 := s1.trans s2
      refine Rd.iC (by omega) ?_
      walk_at "rd"
      refine Rd.cut (fun σ H' => ∃ b : Bool, σ = [some (.ref a), some (.ref t), some (.str y), some (.ref L), o4, o5, some (.ref bk), some (.ref P), some (.str (Txt.mul y x0)), some (.str (Txt.mul y x1)), some (.str (Txt.mul y x2)), some (.ref q), some (.int n), some (.int W0), some (.bl b), none, none, none, none, none, none, none] ∧ (b = true ↔ M85.Reach ls W0 W0) ∧ Same HH H') ?_ ?_
      · walk_at "rd"
        refine ite2 (fun q => ?_) (fun q => ?_)
        · walk_at "rd"
          refine ⟨L, ls, W0, rfl, .of (SH.same s12).gl, by omega, by omega, fun J3 b s3 hb => ?_⟩
          walk_at "rd"
          exact ⟨b, rfl, hb, s12.trans s3⟩
        · walk_at "rd"
          refine ⟨_, rfl, ?_, s12⟩
          rw [decide_eq_true_iff]
          exact far1 hl (by omega)
      · rintro _ J3 ⟨b, rfl, hb, s3⟩
        have S3 := SH.same s3
        walk_at "rd"
        refine ⟨q, a1, ra, ah, rd, n, rfl, s3 _ _ gqH, s3 _ _ gaH, s3 _ _ grH, n1, r1p, fun b' hb' => ?_⟩
        have eb' : b' = b := by
          rw [F.rep.is] at hb'
          rw [← Option.some.inj hb', Bool.eq_iff_iff]
          exact fl.trans hb.symm
        rw [eb']
        walk_at "rd"
        refine flagR ?_
        rw [beq_self_eq_true]
        walk_at "rd"
        refine ⟨L, ls, W0, rfl, .inl (.of S3.gl), LL, w1, w30, fun J4 b4 s4 hb4 => ?_⟩
        have e4 : b4 = b := by rw [Bool.eq_iff_iff]; exact hb4.trans hb.symm
        rw [e4]
        walk_at "rd"
        refine flagR ?_
        rw [beq_self_eq_true]
        walk_at "rd"
        refine ⟨bk, ys y ls, _, _, _, n, rfl, (S3.same s4).hB, hW', PO, n1, by omega, fun J5 s5 => ?_⟩
        have e5 : Mfd.flag (Wss (ys y ls)) (sg (Txt.mul y x0)) (sg (Txt.mul y x1)) (sg (Txt.mul y x2)) (n - 1).toNat = b := by rw [Bool.eq_iff_iff]; exact fl.trans hb.symm
        rw [e5]
        walk_at "rd"
        refine flagR ?_
        rw [beq_self_eq_true]
        walk_at "rd"
        exact ⟨_, _, _, rfl, (s3.trans s4).trans s5⟩
    rintro _ J1 ⟨o12, o13, o14, rfl, s1⟩
    have SJ := SH.same s1
    have tpJ := tpH.same s1
    have gqJ := s1 _ _ gqH
    have gaJ := s1 _ _ gaH
    have grJ := s1 _ _ grH
    clear SH tpH gqH gaH grH gPH s1 gz3 all
    walk_at "rd"
    refine ⟨L, ls, rfl, .inl (.of SJ.gl), LL, fun gs J2 s2 ns gg => ?_⟩
    have S2 := SJ.same s2
    have tp2 := tpJ.same s2
    have gst := (tpJ.new ns).1
    have gq2 := s2 _ _ gqJ
    have ga2 := s2 _ _ gaJ
    have gr2 := s2 _ _ grJ
    clear SJ tpJ ns gqJ gaJ grJ s2
    walk_at "rd"
    refine pickR tp2 (by decide) (by decide) fun r15 J3 r150 r151 tp3 b3 => ?_
    have S3 := S2.but tp2 Lt b3
    have gg3 := b3 _ _ gst gg
    have gq3 := b3 _ _ qt gq2
    have ga3 := b3 _ _ a1t ga2
    have gr3 := b3 _ _ rat gr2
    clear S2 gg gq2 ga2 gr2 tp2 b3
    walk_at "rd"
    obtain ⟨n, en⟩ : ∃ n : Int, n = 1 + r15 := ⟨_, rfl⟩
    rw [← en]
    have n1 : 1 ≤ n := by omega
    have n40 : n ≤ 40 := by omega
    refine Rx.repS (ok1 O (by omega) (by omega)) ?_
    walk_at "rd"
    have gi := gaps1 LL n n1 (by omega)
    have Wn := wd1 O n1 n40
    have tn := told1 O hl n n1
    refine Rd.cut (fun σ H' => ∃ b : Bool, σ = [some (.ref a), some (.ref t), some (.str y), some (.ref L), o4, o5, some (.ref bk), some (.ref P), some (.str (Txt.mul y x0)), some (.str (Txt.mul y x1)), some (.str (Txt.mul y x2)), some (.ref q), o12, o13, some (.bl b), some (.ref gs), some (.int n), some (.str (Txt.mul y n)), none, none, none, none] ∧ (b = true ↔ M85.Reach ls n n) ∧ Same J3 H') ?_ ?_
    · walk_at "rd"
      refine Rd.inIntsN (.inl (.of gg3)) ?_
      refine ⟨_, rfl, ?_⟩
      by_cases m : n ∈ M85.gaps ls
      · rw [decide_eq_true m]
        walk_at "rd"
        exact ⟨false, rfl, ⟨fun z => absurd z Bool.false_ne_true, fun z => absurd m (gi.mp z).2⟩, Same.refl _⟩
      · rw [decide_eq_false m]
        walk_at "rd"
        refine ⟨L, ls, rfl, .of S3.gl, fun n m => by have := hl n m; omega, fun J4 s4 => ?_⟩
        refine Rd.iC (by omega) ?_
        walk_at "rd"
        refine ⟨_, rfl, ?_, s4⟩
        rw [decide_eq_true_iff]
        exact ⟨fun z => gi.mpr ⟨z, m⟩, fun z => (gi.mp z).1⟩
    rintro _ J4 ⟨b, rfl, hb, s4⟩
    have S4 := S3.same s4
    have tp4 := tp3.same s4
    have gg4 := s4 _ _ gg3
    have gq4 := s4 _ _ gq3
    have ga4 := s4 _ _ ga3
    have gr4 := s4 _ _ gr3
    clear S3 tp3 gg3 gq3 ga3 gr3 s4
    walk_at "rd"
    refine ⟨bk, ys y ls, _, rfl, S4.hB, W, Wn, fun b5 J5 s5 hb5 => ?_⟩
    have e5 : b5 = b := by rw [Bool.eq_iff_iff]; exact hb5.trans (tn.trans hb.symm)
    rw [e5]
    walk_at "rd"
    refine flagR ?_
    rw [beq_self_eq_true]
    walk_at "rd"
    refine ⟨bk, ys y ls, _, rfl, (S4.same s5).hB, W, Wn, fun v J6 s6 hz => ?_⟩
    have S6 := S4.same (s5.trans s6)
    have tp6 := tp4.same (s5.trans s6)
    have gg6 := s6 _ _ (s5 _ _ gg4)
    have gq6 := s6 _ _ (s5 _ _ gq4)
    have ga6 := s6 _ _ (s5 _ _ ga4)
    have gr6 := s6 _ _ (s5 _ _ gr4)
    clear S4 tp4 gg4 gq4 ga4 gr4
    have ev : (!decide (v = V.non)) = b := by
      rw [Bool.eq_iff_iff, hb, ← tn]
      rcases hz with ⟨rfl, no⟩ | ⟨z, P, rfl, _, _, g⟩
      · simpa using no
      · exact iff_of_true (by simp) (gr_told g)
    clear hz s5 s6
    walk_at "rd"
    refine ⟨rfl, ?_⟩
    rw [ev]
    walk_at "rd"
    refine Rd.no (by rw [bne_self_eq_false]; exact Bool.false_ne_true) ?_
    walk_at "rd"
    refine ⟨bk, y, 6, ys y ls, rfl, S6.hB, W, O.ok, by rw [O.len]; decide, by rw [O.len]; decide, by rw [ey]; exact List.pairwise_singleton _ d, by decide, by decide, fun l7 H7 s7 n7 g7 => ?_⟩
    have ti : inOrder (toldIn (ys y ls) (allOf y 6)) = ys y (upTo ls 6) := by
      rw [ey] at O ⊢
      exact toldIn1 O hl 6
    rw [ti] at g7
    have S7 := S6.same s7
    have tp7 := tp6.same s7
    have gg7 := s7 _ _ gg6
    have gq7 := s7 _ _ gq6
    have ga7 := s7 _ _ ga6
    have gr7 := s7 _ _ gr6
    clear S6 tp6 gg6 gq6 ga6 gr6 s7 n7
    walk_at "rd"
    refine Rz.rng2 ?_
    walk_at "rd"
    refine ⟨⟨by decide, by decide, by decide, by decide⟩, ?_⟩
    refine Rd.lcS (walk_range (lo := 1) (n := 6)) (fun _ _ => trivial) (fun D i acc _ => acc = (ys y (upTo ls i)).map V.str) (fun _ _ _ _ _ => rfl) ?_ ?_
    · rintro D i x G1 _ acc nD hi hD sm rfl ⟨rfl, rfl⟩
      have ei : (1 : Int) + (i : Int) = ((i + 1 : Nat) : Int) := by omega
      have few := upTo_few ls i
      show gName 4 (V.int (1 + (i : Int))) _ _ _
      rw [ei]
      walk_at "rd"
      refine ⟨rfl, ?_⟩
      walk_at "rd"
      refine ⟨L, ls, _, rfl, .of (S7.same sm).gl, by omega, by omega, fun G2 b2 s2 hb2 => ?_⟩
      walk_at "rd"
      have up := upTo_succ ls i
      cases b2 with
      | true =>
        rw [if_pos (hb2.mp rfl)] at up
        walk_at "rd"
        refine Rx.repS (ok1 O (by omega) (by omega)) ?_
        refine Rd.lcPush (s2 _ _ hD) nD (sm.trans s2) (by unfold ys; rw [List.length_map, List.length_map, sizeLine_eq]; omega) fun G4 _ _ => ?_
        rw [up]
        unfold ys
        rw [List.map_append, List.map_append]
        rfl
      | false =>
        rw [if_neg (fun z => Bool.false_ne_true (hb2.mpr z)), List.append_nil] at up
        walk_at "rd"
        refine ⟨_, s2 _ _ hD, sm.trans s2, ?_⟩
        dsimp only
        rw [up]
    rintro D acc G1 nD hD sm rfl
    refine Rd.neStrs (.of (sm _ _ g7)) (.of hD) (fun z m => ?_) ?_
    · obtain ⟨x, mx, rfl⟩ := List.mem_map.mp m
      have := upTo_mem mx
      exact (let1 O (by omega)).ok
    walk_at "rd"
    have S8 := S7.same sm
    have tp8 := tp7.same sm
    have gg8 := sm _ _ gg7
    have gq8 := sm _ _ gq7
    have ga8 := sm _ _ ga7
    have gr8 := sm _ _ gr7
    clear S7 tp7 gg7 gq7 ga7 gr7 sm g7 hD nD
    refine Rd.forS ?_
    walk_at "rd"
    refine ⟨bk, ys y ls, rfl, S8.hB, W, fun l9 H9 s9 n9 g9 => ?_⟩
    have S9 := S8.same s9
    have tp9 := tp8.same s9
    have gg9 := s9 _ _ gg8
    have gq9 := s9 _ _ gq8
    have ga9 := s9 _ _ ga8
    have gr9 := s9 _ _ gr8
    clear S8 tp8 gg8 gq8 ga8 gr8 s9 n9
    walk_at "rd"
    refine ⟨⟨_, .of g9⟩, for_list (K := K) (a := l9) (xs := (dues (ys y ls) (ys y ls)).map V.str) (fun i σ H' => ∃ o18 o19 : Option V, σ = [some (.ref a), some (.ref t), some (.str y), some (.ref L), o4, o5, some (.ref bk), some (.ref P), some (.str (Txt.mul y x0)), some (.str (Txt.mul y x1)), some (.str (Txt.mul y x2)), some (.ref q), o12, o13, some (.bl b), some (.ref gs), some (.int n), some (.str (Txt.mul y n)), o18, o19, none, none] ∧ Same H9 H') ⟨_, _, rfl, Same.refl _⟩ (fun i σ H' _ ⟨_, _, _, s⟩ => .of (s _ _ g9)) ?_ ?_⟩
    · rintro i v _ J1 hv ⟨o18, o19, rfl, s1⟩
      obtain ⟨V, hV, rfl⟩ := Rd.map_strG hv
      have mV := List.mem_of_getElem? hV
      have tV := (mem_dues (dues_sub _ _ _ mV)).mp mV
      obtain ⟨l, ml, rfl⟩ := List.mem_map.mp (dues_sub _ _ _ mV)
      have hl12 := hl l ml
      rw [others1 O hl (by omega)] at tV
      have hb' : ∀ n ∈ butL ls l, 1 ≤ n ∧ n ≤ 12 := fun n m => hl n (butL_mem.mp m).1
      have rl := (told1 O hb' l hl12.1).mp tV
      have dr := butL_drop hl rl
      have sub : ∀ n ∈ butL ls l, n ∈ ls := fun n m => (butL_mem.mp m).1
      have few : (butL ls l).length ≤ 6 := Nat.le_trans (List.length_filter_le _ _) L6
      have ne : 1 ≤ (butL ls l).length := by
        cases e : butL ls l with
        | nil =>
          rw [e] at rl
          have := reach_nil rl
          omega
        | cons x xs => exact Nat.succ_le_succ (Nat.zero_le _)
      have LB : Lens (butL ls l) := ⟨ne, by omega, fun n m => by have := hb' n m; omega⟩
      have WB := watches1 O (nd.sublist List.filter_sublist) hb' (by show (butL ls l).length ≤ 12; omega)
      have lV := mul1 O (n := l) (by omega)
      have S1 := S9.same s1
      walk_at "rd"
      refine ⟨⟨_, .of S1.gl⟩, Rd.lcS walk_list (fun _ s => .of (S1.same s).gl) (fun D i acc _ => acc = (butL (ls.take i) l).map V.int) (fun _ _ _ _ _ => rfl) ?_ ?_⟩
      · rintro D i x G2 _ acc nD hi hD sm rfl ⟨rfl, hx⟩
        obtain ⟨n, hn, rfl⟩ := Rd.map_get hx
        have fw : (butL (ls.take i) l).length ≤ 6 := Nat.le_trans (List.length_filter_le _ _) (by rw [List.length_take]; omega)
        have st : butL (ls.take (i + 1)) l = butL (ls.take i) l ++ if n = l then [] else [n] := by
          unfold butL
          rw [Rd.take_snoc hn, List.filter_append]
          congr 1
          by_cases e : n = l <;> simp [e]
        walk_at "rd"
        refine ⟨rfl, ?_⟩
        walk_at "rd"
        refine Rd.lenStr (by rw [lV, sizeLine_eq]; omega) ?_
        rw [lV, Int.toNat_of_nonneg (by omega)]
        walk_at "rd"
        refine ite2 (fun e => ?_) (fun e => ?_)
        · rw [if_pos e, List.append_nil] at st
          walk_at "rd"
          refine ⟨_, hD, sm, ?_⟩
          dsimp only
          rw [st]
        · rw [if_neg e] at st
          walk_at "rd"
          refine Rd.lcPush hD nD sm (by rw [List.length_map, sizeLine_eq]; omega) fun G4 _ _ => ?_
          rw [st, List.map_append]
          rfl
      rintro D acc G2 nD hD sm rfl
      rw [List.length_map, List.take_length] at hD
      walk_at "rd"
      refine ⟨⟨_, .of hD⟩, Rd.lcS walk_list (fun _ s => .of (s _ _ hD)) (fun D2 i acc _ => acc = (((butL ls l).take i).map fun l => Txt.mul y l).map V.str) (fun _ _ _ _ _ => rfl) ?_ ?_⟩
      · rintro D2 i x G3 _ acc nD2 hi hD2 sm2 rfl ⟨rfl, hx⟩
        obtain ⟨n, hn, rfl⟩ := Rd.map_get hx
        have hn2 := hb' n (List.mem_of_getElem? hn)
        walk_at "rd"
        refine ⟨rfl, ?_⟩
        walk_at "rd"
        refine Rx.repS (ok1 O (by omega) (by omega)) ?_
        refine Rd.lcPush hD2 nD2 sm2 (by rw [List.length_map, List.length_map, List.length_take, sizeLine_eq]; omega) fun G4 _ _ => ?_
        rw [Rd.take_snoc hn, List.map_append, List.map_append]
        rfl
      rintro D2 acc G3 nD2 hD2 sm2 rfl
      rw [List.length_map, List.take_length] at hD2
      walk_at "rd"
      refine mkB (ws := ys y (butL ls l)) hD2 WB fun bk2 G4 hB2 s4 => ?_
      walk_at "rd"
      refine ⟨Nat.le_of_ble_eq_true rfl, Rd.new fun w1 G5 nw gw s5 => ?_⟩
      walk_at "rd"
      refine ⟨bk2, w1, ys y (butL ls l), [Txt.mul y n], rfl, hB2.same s5, WB, .inl (.of gw), Nat.le_of_ble_eq_true rfl, fun z m => by rw [List.mem_singleton.mp m]; exact Wn, fun b6 G6 s6 hb6 => ?_⟩
      have e6 : b6 = b := by
        rw [Bool.eq_iff_iff]
        refine hb6.trans (Iff.trans ?_ (((told1 O hb' n n1).trans (reach_drop hl hb' sub dr n1).symm).trans hb.symm))
        exact ⟨fun h => h _ (List.mem_singleton.mpr rfl), fun h z m => by rw [List.mem_singleton.mp m]; exact h⟩
      rw [e6]
      walk_at "rd"
      refine flagR ?_
      rw [beq_self_eq_true]
      walk_at "rd"
      have s26 := ((sm2.trans s4).trans s5).trans s6
      refine ⟨D, butL ls l, rfl, .inl (.of (s26 _ _ hD)), LB, fun gl2 G7 s7 n7 g7 => ?_⟩
      have s17 := ((s1.trans sm).trans s26).trans s7
      walk_at "rd"
      refine Rd.neInts (.of g7) (.of (s17 _ _ gg9)) ?_
      rw [← gaps_drop LL hl hb' sub dr, decide_eq_true rfl]
      walk_at "rd"
      exact ⟨_, _, rfl, s17⟩
    rintro _ J1 ⟨o18, o19, rfl, s1⟩
    have S1 := S9.same s1
    have tp1 := tp9.same s1
    have gg1 := s1 _ _ gg9
    have gq1 := s1 _ _ gq9
    have ga1 := s1 _ _ ga9
    have gr1 := s1 _ _ gr9
    clear S9 tp9 gg9 gq9 ga9 gr9 s1 g9
    walk_at "rd"
    refine Rz.rng2 ?_
    walk_at "rd"
    refine ⟨⟨by decide, by decide, by decide, by decide⟩, ?_⟩
    refine Rd.lcS (walk_range (lo := 1) (n := 12)) (fun _ _ => trivial) (fun D i acc _ => acc = (mores ls i).map V.int) (fun _ _ _ _ _ => rfl) ?_ ?_
    · rintro D i x G1 _ acc nD hi hD sm rfl ⟨rfl, rfl⟩
      have ei : (1 : Int) + (i : Int) = ((i + 1 : Nat) : Int) := by omega
      have few := mores_few ls i
      have up := mores_succ ls i
      show gName 5 (V.int (1 + (i : Int))) _ _ _
      rw [ei]
      walk_at "rd"
      refine ⟨rfl, ?_⟩
      walk_at "rd"
      refine Rd.inIntsN (.inl (.of (S1.same sm).gl)) ?_
      by_cases m : ((i + 1 : Nat) : Int) ∈ ls
      · rw [if_neg (fun z => z.1 m), List.append_nil] at up
        rw [decide_eq_true m]
        walk_at "rd"
        refine ⟨_, hD, sm, ?_⟩
        dsimp only
        rw [up]
      · rw [decide_eq_false m]
        walk_at "rd"
        refine ⟨L, ls, _, rfl, .inl (.of (S1.same sm).gl), LL, by omega, by omega, fun G2 b2 s2 hb2 => ?_⟩
        walk_at "rd"
        cases b2 with
        | true =>
          rw [if_pos ⟨m, hb2.mp rfl⟩] at up
          walk_at "rd"
          refine Rd.lcPush (s2 _ _ hD) nD (sm.trans s2) (by rw [List.length_map, sizeLine_eq]; omega) fun G4 _ _ => ?_
          rw [up, List.map_append]
          rfl
        | false =>
          rw [if_neg (fun z => Bool.false_ne_true (hb2.mpr z.2)), List.append_nil] at up
          walk_at "rd"
          refine ⟨_, s2 _ _ hD, sm.trans s2, ?_⟩
          dsimp only
          rw [up]
    rintro D acc G1 nD hD sm rfl
    have Dt := (tp1.new nD).1
    have tp2 := tp1.same sm
    have S2 := S1.same sm
    have gg2 := sm _ _ gg1
    have gq2 := sm _ _ gq1
    have ga2 := sm _ _ ga1
    have gr2 := sm _ _ gr1
    clear tp1 S1 gg1 gq1 ga1 gr1 sm nD
    walk_at "rd"
    refine Rd.cut (fun _ _ => True) ?_ ?_
    · walk_at "rd"
      refine Rd.len (.inl (.of hD)) ?_
      rw [List.length_map]
      walk_at "rd"
      refine ite2 (fun c1 => ?_) (fun c1 => ?_)
      · walk_at "rd"
        refine Rd.len (.inl (.of S2.gl)) ?_
        rw [List.length_map]
        walk_at "rd"
        refine ite2 (fun c2 => ?_) (fun c2 => ?_)
        · walk_at "rd"
          refine Rd.len (.inl (.of hD)) ?_
          rw [List.length_map]
          have few := mores_few ls 12
          walk_at "rd"
          refine pickR tp2 (by omega) (by omega) fun r20 G2 r200 r201 tp3 b3 => ?_
          have S3 := S2.but tp2 Lt b3
          have gg3 := b3 _ _ gst gg2
          have gq3 := b3 _ _ qt gq2
          have ga3 := b3 _ _ a1t ga2
          have gr3 := b3 _ _ rat gr2
          have gD3 := b3 _ _ Dt hD
          have lt : r20.toNat < (mores ls 12).length := by omega
          obtain ⟨o, eo⟩ : ∃ o : Int, (mores ls 12)[r20.toNat]? = some o := ⟨_, List.getElem?_eq_getElem lt⟩
          obtain ⟨o1, o12', om, ro⟩ := mores_mem (List.mem_of_getElem? eo)
          refine Rd.ixL (v := .int o) (.of gD3) (Rd.atI_of r200 (by rw [List.getElem?_map, eo]; rfl)) ?_
          walk_at "rd"
          refine ⟨Nat.le_of_ble_eq_true rfl, Rd.new fun z1 G3 n3 gz1 s3 => ?_⟩
          refine Rd.cat (s3 _ _ S3.gl) gz1 (by rw [List.length_map, sizeLine_eq]; show _ + 1 ≤ _; omega) (Rd.new fun z2 G4 n4 gz2 s4 => ?_)
          replace gz2 : G4 z2 = some (.lst ((ls ++ [o]).map V.int)) := by rw [gz2, List.map_append]; rfl
          have hlo : ∀ n ∈ ls ++ [o], 1 ≤ n ∧ n ≤ 12 := fun n m => by
            rcases List.mem_append.mp m with m | m
            · exact hl n m
            · rw [List.mem_singleton.mp m]
              omega
          have Lo : Lens (ls ++ [o]) := ⟨by rw [List.length_append]; show 1 ≤ _ + 1; omega, by rw [List.length_append]; show _ + 1 ≤ 8; omega, fun n m => by have := hlo n m; omega⟩
          have dro : ∀ l ∈ ls ++ [o], M85.Reach ls l l := fun l m => by
            rcases List.mem_append.mp m with m | m
            · exact reach_self m (by have := hl l m; omega)
            · rw [List.mem_singleton.mp m]
              exact ro
          have subo : ∀ l ∈ ls, l ∈ ls ++ [o] := fun l m => List.mem_append_left _ m
          have Wo := watches1 O (snoc_nodup nd om) hlo (by rw [List.length_append]; show _ + 1 ≤ 12; omega)
          have eWo : ys y (ls ++ [o]) = ys y ls ++ [Txt.mul y o] := by unfold ys; rw [List.map_append]; rfl
          have hWo : ∀ V ∈ ys y (ls ++ [o]), 1 ≤ V.length ∧ V.length ≤ 12 := fun V m => by have := Wo.ok V m; have := this.l0; have := (Wo.ok V m).l1; omega
          walk_at "rd"
          refine ⟨z2, ls ++ [o], rfl, .inl (.of gz2), Lo, fun gl2 G5 s5 n5 g5 => ?_⟩
          have s35 := (s3.trans s4).trans s5
          have S5 := S3.same s35
          walk_at "rd"
          refine Rd.neInts (.of g5) (.of (s35 _ _ gg3)) ?_
          rw [gaps_drop Lo hlo hl subo dro, decide_eq_true rfl]
          walk_at "rd"
          obtain ⟨dx, tt, hb1, ht1⟩ := id S5.hB
          refine Rd.meth hb1 rfl ?_
          walk_at "rd"
          refine Rx.repS (ok1 O (by omega) (by omega)) ?_
          walk_at "rd"
          refine ⟨bk, _, ys y ls, rfl, S5.hB, by rw [← eWo]; exact Wo, fun bk2 G6 hB6 s6 n6 => ?_⟩
          rw [← eWo] at hB6
          walk_at "rd"
          refine ⟨bk2, ys y (ls ++ [o]), _, _, _, rfl, hB6, hWo, PO, fun q2 a2 r2 ah2 rd2 G7 s7 _ _ _ gq7 ga7 gr7 F2 => ?_⟩
          obtain ⟨u1, u2⟩ := powf_uniq F2 F (fun k => by
            rw [Bool.eq_iff_iff]
            have f1 := flag1 O hlo x00 (show 0 ≤ x1 by omega) x20 (n := (k : Int) + 1) (by omega)
            have f2 := flag1 O hl x00 (show 0 ≤ x1 by omega) x20 (n := (k : Int) + 1) (by omega)
            rw [show ((k : Int) + 1 - 1).toNat = k by omega] at f1 f2
            have m1 : 1 ≤ x1 * ((k : Int) + 1) := Int.mul_le_mul (a := 1) (b := 1) x10 (by omega) (by decide) (by omega)
            exact f1.trans ((reach_drop hlo hl subo dro (by omega)).trans f2.symm))
          subst u1
          subst u2
          have s37 := (s35.trans s6).trans s7
          walk_at "rd"
          refine neTwo gq7 (s37 _ _ gq3) ga7 gr7 (s37 _ _ ga3) (s37 _ _ gr3) ?_
          walk_at "rd"
          trivial
        · walk_at "rd"
          trivial
      · walk_at "rd"
        trivial
    · intro _ _ _
      walk_at "rd"
      exact k _

end
end W

namespace W
open PySem PySem.Spec PyProof.Rows L2
theorem all_mk {l : PySem.W.OpenLaw} {w : World} {K : PySem.W.Frag} {h : Heap} {mg : Str → Option Value} {fa : Addr} (X : K.In h) (G : h.Ns mainGlobals mg) (hfa : mg "law" = some (.ref fa))
    {f1 f2 f3 f4 f5 f6 f7 f8 f9 f10 f11 f12 f13 f14 f15 f16 f17 f18 f19 f20 f21 f22 f23 f24 f25 f26 f27 f28 f29 f30 f31 f32 f33 f34 f35 f36 f37 f38 f39 f40 f41 f42 f43 f44 f45 f46 f47 f48 C0 : Addr} {od1 an1 od2 an2 od3 an3 od4 an4 od5 an5 od6 an6 od7 an7 od8 an8 od9 an9 od10 an10 od11 an11 od12 an12 od13 an13 od14 an14 od15 an15 od16 an16 od17 an17 od18 an18 od19 an19 od20 an20 od21 an21 od22 an22 od23 an23 od24 an24 od25 an25 od26 an26 od27 an27 od28 an28 od29 an29 od30 an30 od31 an31 od32 an32 od33 an33 od34 an34 od35 an35 od36 an36 od37 an37 od38 an38 od39 an39 od40 an40 od41 an41 od42 an42 od43 an43 od44 an44 od45 an45 od46 an46 od47 an47 od48 an48 : Option Addr} {sl1 sl2 sl3 sl4 sl5 sl6 sl7 sl8 sl9 sl10 sl11 sl12 sl13 sl14 sl15 sl16 sl17 sl18 sl19 sl20 sl21 sl22 sl23 sl24 sl25 sl26 sl27 sl28 sl29 sl30 sl31 sl32 sl33 sl34 sl35 sl36 sl37 sl38 sl39 sl40 sl41 sl42 sl43 sl44 sl45 sl46 sl47 sl48 : Array (Option Value)} {oc1 kV1 dc1 pm1 cd1 ct1 oc2 kV2 dc2 pm2 cd2 ct2 oc3 kV3 dc3 pm3 cd3 ct3 oc4 kV4 dc4 pm4 cd4 ct4 oc5 kV5 dc5 pm5 cd5 ct5 oc6 kV6 dc6 pm6 cd6 ct6 oc7 kV7 dc7 pm7 cd7 ct7 oc8 kV8 dc8 pm8 cd8 ct8 oc9 kV9 dc9 pm9 cd9 ct9 oc10 kV10 dc10 pm10 cd10 ct10 oc11 kV11 dc11 pm11 cd11 ct11 oc12 kV12 dc12 pm12 cd12 ct12 oc13 kV13 dc13 pm13 cd13 ct13 oc14 kV14 dc14 pm14 cd14 ct14 oc15 kV15 dc15 pm15 cd15 ct15 oc16 kV16 dc16 pm16 cd16 ct16 oc17 kV17 dc17 pm17 cd17 ct17 oc18 kV18 dc18 pm18 cd18 ct18 oc19 kV19 dc19 pm19 cd19 ct19 oc20 kV20 dc20 pm20 cd20 ct20 oc21 kV21 dc21 pm21 cd21 ct21 oc22 kV22 dc22 pm22 cd22 ct22 oc23 kV23 dc23 pm23 cd23 ct23 oc24 kV24 dc24 pm24 cd24 ct24 oc25 kV25 dc25 pm25 cd25 ct25 oc26 kV26 dc26 pm26 cd26 ct26 oc27 kV27 dc27 pm27 cd27 ct27 oc28 kV28 dc28 pm28 cd28 ct28 oc29 kV29 dc29 pm29 cd29 ct29 oc30 kV30 dc30 pm30 cd30 ct30 oc31 kV31 dc31 pm31 cd31 ct31 oc32 kV32 dc32 pm32 cd32 ct32 oc33 kV33 dc33 pm33 cd33 ct33 oc34 kV34 dc34 pm34 cd34 ct34 oc35 kV35 dc35 pm35 cd35 ct35 oc36 kV36 dc36 pm36 cd36 ct36 oc37 kV37 dc37 pm37 cd37 ct37 oc38 kV38 dc38 pm38 cd38 ct38 oc39 kV39 dc39 pm39 cd39 ct39 oc40 kV40 dc40 pm40 cd40 ct40 oc41 kV41 dc41 pm41 cd41 ct41 oc42 kV42 dc42 pm42 cd42 ct42 oc43 kV43 dc43 pm43 cd43 ct43 oc44 kV44 dc44 pm44 cd44 ct44 oc45 kV45 dc45 pm45 cd45 ct45 oc46 kV46 dc46 pm46 cd46 ct46 oc47 kV47 dc47 pm47 cd47 ct47 oc48 kV48 dc48 pm48 cd48 ct48 : Value}
    (u0 : PySem.W.nsIn K mainGlobals "Book" = some (some (.ref C0)))
    (pg0 : PySem.W.plainGet K C0 Str.empty = true) (hd0 : PySem.W.hasDictIn K C0 = true) (po0 : PySem.W.plainOver K C0 = true) (sa0 : PySem.W.findIn K (.ref C0) "__setattr__" = some (some (.builtin "object.__setattr__")))
    (wc0 : PySem.W.findIn K (.ref C0) "__class__" = some (some (.builtin "object.__class__"))) (wm0 : PySem.W.mroIn K C0 (.type "object") = some true)
    (wn0 : PySem.W.specialIn K (.builtin "object.__class__") "__get__" = some (some (.builtin "getset_descriptor.__get__"))) (wt0 : PySem.W.takesIn K (.builtin "object.__class__") = some true)
    (na0_0 : PySem.W.findIn K (.ref C0) "watches" = some none)
    (a1 : PySem.W.nsIn K mainGlobals "is_integer" = some (some (.ref f1)))
    (l1 : K.lookup f1 = some ⟨oc1, od1, .func (PySem.W.fnOf "is_integer" "is_integer" (defArgs s_is_integer) (defBody s_is_integer) (defScope s_is_integer) .none kV1 dc1 pm1 an1 cd1 ct1), sl1⟩) (c1 : PySem.W.codeIn K cd1 "is_integer" = true) (k1 : PySem.W.keepIn K (.ref f1) = true)
    (a2 : PySem.W.nsIn K mainGlobals "is_letters" = some (some (.ref f2)))
    (l2 : K.lookup f2 = some ⟨oc2, od2, .func (PySem.W.fnOf "is_letters" "is_letters" (defArgs s_is_letters) (defBody s_is_letters) (defScope s_is_letters) .none kV2 dc2 pm2 an2 cd2 ct2), sl2⟩) (c2 : PySem.W.codeIn K cd2 "is_letters" = true) (k2 : PySem.W.keepIn K (.ref f2) = true)
    (a3 : PySem.W.nsIn K mainGlobals "is_word" = some (some (.ref f3)))
    (l3 : K.lookup f3 = some ⟨oc3, od3, .func (PySem.W.fnOf "is_word" "is_word" (defArgs s_is_word) (defBody s_is_word) (defScope s_is_word) .none kV3 dc3 pm3 an3 cd3 ct3), sl3⟩) (c3 : PySem.W.codeIn K cd3 "is_word" = true) (k3 : PySem.W.keepIn K (.ref f3) = true)
    (a4 : PySem.W.nsIn K mainGlobals "is_watch" = some (some (.ref f4)))
    (l4 : K.lookup f4 = some ⟨oc4, od4, .func (PySem.W.fnOf "is_watch" "is_watch" (defArgs s_is_watch) (defBody s_is_watch) (defScope s_is_watch) .none kV4 dc4 pm4 an4 cd4 ct4), sl4⟩) (c4 : PySem.W.codeIn K cd4 "is_watch" = true) (k4 : PySem.W.keepIn K (.ref f4) = true)
    (a5 : PySem.W.nsIn K mainGlobals "check_word" = some (some (.ref f5)))
    (l5 : K.lookup f5 = some ⟨oc5, od5, .func (PySem.W.fnOf "check_word" "check_word" (defArgs s_check_word) (defBody s_check_word) (defScope s_check_word) .none kV5 dc5 pm5 an5 cd5 ct5), sl5⟩) (c5 : PySem.W.codeIn K cd5 "check_word" = true) (k5 : PySem.W.keepIn K (.ref f5) = true)
    (a6 : PySem.W.nsIn K mainGlobals "text_key" = some (some (.ref f6)))
    (l6 : K.lookup f6 = some ⟨oc6, od6, .func (PySem.W.fnOf "text_key" "text_key" (defArgs s_text_key) (defBody s_text_key) (defScope s_text_key) .none kV6 dc6 pm6 an6 cd6 ct6), sl6⟩) (c6 : PySem.W.codeIn K cd6 "text_key" = true) (k6 : PySem.W.keepIn K (.ref f6) = true)
    (a7 : PySem.W.nsIn K mainGlobals "in_order" = some (some (.ref f7)))
    (l7 : K.lookup f7 = some ⟨oc7, od7, .func (PySem.W.fnOf "in_order" "in_order" (defArgs s_in_order) (defBody s_in_order) (defScope s_in_order) .none kV7 dc7 pm7 an7 cd7 ct7), sl7⟩) (c7 : PySem.W.codeIn K cd7 "in_order" = true) (k7 : PySem.W.keepIn K (.ref f7) = true)
    (a8 : PySem.W.findIn K (.ref C0) "__init__" = some (some (.ref f8))) (i8 : PySem.W.isFn K (.ref f8) = true)
    (mk0 : PySem.W.makesIn K C0 = true) (kc0 : PySem.W.keepIn K (.ref C0) = true)
    (l8 : K.lookup f8 = some ⟨oc8, od8, .func (PySem.W.fnOf "__init__" "Book.__init__" (defArgs s_Book_init) (defBody s_Book_init) (defScope s_Book_init) .none kV8 dc8 pm8 an8 cd8 ct8), sl8⟩) (c8 : PySem.W.codeIn K cd8 "Book.__init__" = true) (k8 : PySem.W.keepIn K (.ref f8) = true)
    (a9 : PySem.W.findIn K (.ref C0) "with_watch" = some (some (.ref f9))) (i9 : PySem.W.isFn K (.ref f9) = true)
    (l9 : K.lookup f9 = some ⟨oc9, od9, .func (PySem.W.fnOf "with_watch" "Book.with_watch" (defArgs s_Book_with_watch) (defBody s_Book_with_watch) (defScope s_Book_with_watch) .none kV9 dc9 pm9 an9 cd9 ct9), sl9⟩) (c9 : PySem.W.codeIn K cd9 "Book.with_watch" = true) (k9 : PySem.W.keepIn K (.ref f9) = true)
    (a10 : PySem.W.nsIn K mainGlobals "check_book" = some (some (.ref f10)))
    (l10 : K.lookup f10 = some ⟨oc10, od10, .func (PySem.W.fnOf "check_book" "check_book" (defArgs s_check_book) (defBody s_check_book) (defScope s_check_book) .none kV10 dc10 pm10 an10 cd10 ct10), sl10⟩) (c10 : PySem.W.codeIn K cd10 "check_book" = true) (k10 : PySem.W.keepIn K (.ref f10) = true)
    (a11 : PySem.W.nsIn K mainGlobals "renamed" = some (some (.ref f11)))
    (l11 : K.lookup f11 = some ⟨oc11, od11, .func (PySem.W.fnOf "renamed" "renamed" (defArgs s_renamed) (defBody s_renamed) (defScope s_renamed) .none kV11 dc11 pm11 an11 cd11 ct11), sl11⟩) (c11 : PySem.W.codeIn K cd11 "renamed" = true) (k11 : PySem.W.keepIn K (.ref f11) = true)
    (a12 : PySem.W.nsIn K mainGlobals "fresh_state" = some (some (.ref f12)))
    (l12 : K.lookup f12 = some ⟨oc12, od12, .func (PySem.W.fnOf "fresh_state" "fresh_state" (defArgs s_fresh_state) (defBody s_fresh_state) (defScope s_fresh_state) .none kV12 dc12 pm12 an12 cd12 ct12), sl12⟩) (c12 : PySem.W.codeIn K cd12 "fresh_state" = true) (k12 : PySem.W.keepIn K (.ref f12) = true)
    (a13 : PySem.W.nsIn K mainGlobals "with_letter" = some (some (.ref f13)))
    (l13 : K.lookup f13 = some ⟨oc13, od13, .func (PySem.W.fnOf "with_letter" "with_letter" (defArgs s_with_letter) (defBody s_with_letter) (defScope s_with_letter) .none kV13 dc13 pm13 an13 cd13 ct13), sl13⟩) (c13 : PySem.W.codeIn K cd13 "with_letter" = true) (k13 : PySem.W.keepIn K (.ref f13) = true)
    (a14 : PySem.W.nsIn K mainGlobals "with_letters" = some (some (.ref f14)))
    (l14 : K.lookup f14 = some ⟨oc14, od14, .func (PySem.W.fnOf "with_letters" "with_letters" (defArgs s_with_letters) (defBody s_with_letters) (defScope s_with_letters) .none kV14 dc14 pm14 an14 cd14 ct14), sl14⟩) (c14 : PySem.W.codeIn K cd14 "with_letters" = true) (k14 : PySem.W.keepIn K (.ref f14) = true)
    (a15 : PySem.W.nsIn K mainGlobals "is_met" = some (some (.ref f15)))
    (l15 : K.lookup f15 = some ⟨oc15, od15, .func (PySem.W.fnOf "is_met" "is_met" (defArgs s_is_met) (defBody s_is_met) (defScope s_is_met) .none kV15 dc15 pm15 an15 cd15 ct15), sl15⟩) (c15 : PySem.W.codeIn K cd15 "is_met" = true) (k15 : PySem.W.keepIn K (.ref f15) = true)
    (a16 : PySem.W.nsIn K mainGlobals "flags_of" = some (some (.ref f16)))
    (l16 : K.lookup f16 = some ⟨oc16, od16, .func (PySem.W.fnOf "flags_of" "flags_of" (defArgs s_flags_of) (defBody s_flags_of) (defScope s_flags_of) .none kV16 dc16 pm16 an16 cd16 ct16), sl16⟩) (c16 : PySem.W.codeIn K cd16 "flags_of" = true) (k16 : PySem.W.keepIn K (.ref f16) = true)
    (a17 : PySem.W.nsIn K mainGlobals "least_round" = some (some (.ref f17)))
    (l17 : K.lookup f17 = some ⟨oc17, od17, .func (PySem.W.fnOf "least_round" "least_round" (defArgs s_least_round) (defBody s_least_round) (defScope s_least_round) .none kV17 dc17 pm17 an17 cd17 ct17), sl17⟩) (c17 : PySem.W.codeIn K cd17 "least_round" = true) (k17 : PySem.W.keepIn K (.ref f17) = true)
    (a18 : PySem.W.nsIn K mainGlobals "check_parts" = some (some (.ref f18)))
    (l18 : K.lookup f18 = some ⟨oc18, od18, .func (PySem.W.fnOf "check_parts" "check_parts" (defArgs s_check_parts) (defBody s_check_parts) (defScope s_check_parts) .none kV18 dc18 pm18 an18 cd18 ct18), sl18⟩) (c18 : PySem.W.codeIn K cd18 "check_parts" = true) (k18 : PySem.W.keepIn K (.ref f18) = true)
    (a19 : PySem.W.nsIn K mainGlobals "powers" = some (some (.ref f19)))
    (l19 : K.lookup f19 = some ⟨oc19, od19, .func (PySem.W.fnOf "powers" "powers" (defArgs s_powers) (defBody s_powers) (defScope s_powers) .none kV19 dc19 pm19 an19 cd19 ct19), sl19⟩) (c19 : PySem.W.codeIn K cd19 "powers" = true) (k19 : PySem.W.keepIn K (.ref f19) = true)
    (a20 : PySem.W.nsIn K mainGlobals "far_told" = some (some (.ref f20)))
    (l20 : K.lookup f20 = some ⟨oc20, od20, .func (PySem.W.fnOf "far_told" "far_told" (defArgs s_far_told) (defBody s_far_told) (defScope s_far_told) .none kV20 dc20 pm20 an20 cd20 ct20), sl20⟩) (c20 : PySem.W.codeIn K cd20 "far_told" = true) (k20 : PySem.W.keepIn K (.ref f20) = true)
    (a21 : PySem.W.nsIn K mainGlobals "common" = some (some (.ref f21)))
    (l21 : K.lookup f21 = some ⟨oc21, od21, .func (PySem.W.fnOf "common" "common" (defArgs s_common) (defBody s_common) (defScope s_common) .none kV21 dc21 pm21 an21 cd21 ct21), sl21⟩) (c21 : PySem.W.codeIn K cd21 "common" = true) (k21 : PySem.W.keepIn K (.ref f21) = true)
    (a22 : PySem.W.nsIn K mainGlobals "check_lengths" = some (some (.ref f22)))
    (l22 : K.lookup f22 = some ⟨oc22, od22, .func (PySem.W.fnOf "check_lengths" "check_lengths" (defArgs s_check_lengths) (defBody s_check_lengths) (defScope s_check_lengths) .none kV22 dc22 pm22 an22 cd22 ct22), sl22⟩) (c22 : PySem.W.codeIn K cd22 "check_lengths" = true) (k22 : PySem.W.keepIn K (.ref f22) = true)
    (a23 : PySem.W.nsIn K mainGlobals "divisor_of" = some (some (.ref f23)))
    (l23 : K.lookup f23 = some ⟨oc23, od23, .func (PySem.W.fnOf "divisor_of" "divisor_of" (defArgs s_divisor_of) (defBody s_divisor_of) (defScope s_divisor_of) .none kV23 dc23 pm23 an23 cd23 ct23), sl23⟩) (c23 : PySem.W.codeIn K cd23 "divisor_of" = true) (k23 : PySem.W.keepIn K (.ref f23) = true)
    (a24 : PySem.W.nsIn K mainGlobals "far_from" = some (some (.ref f24)))
    (l24 : K.lookup f24 = some ⟨oc24, od24, .func (PySem.W.fnOf "far_from" "far_from" (defArgs s_far_from) (defBody s_far_from) (defScope s_far_from) .none kV24 dc24 pm24 an24 cd24 ct24), sl24⟩) (c24 : PySem.W.codeIn K cd24 "far_from" = true) (k24 : PySem.W.keepIn K (.ref f24) = true)
    (a25 : PySem.W.nsIn K mainGlobals "steps_reach" = some (some (.ref f25)))
    (l25 : K.lookup f25 = some ⟨oc25, od25, .func (PySem.W.fnOf "steps_reach" "steps_reach" (defArgs s_steps_reach) (defBody s_steps_reach) (defScope s_steps_reach) .none kV25 dc25 pm25 an25 cd25 ct25), sl25⟩) (c25 : PySem.W.codeIn K cd25 "steps_reach" = true) (k25 : PySem.W.keepIn K (.ref f25) = true)
    (a26 : PySem.W.nsIn K mainGlobals "is_reached" = some (some (.ref f26)))
    (l26 : K.lookup f26 = some ⟨oc26, od26, .func (PySem.W.fnOf "is_reached" "is_reached" (defArgs s_is_reached) (defBody s_is_reached) (defScope s_is_reached) .none kV26 dc26 pm26 an26 cd26 ct26), sl26⟩) (c26 : PySem.W.codeIn K cd26 "is_reached" = true) (k26 : PySem.W.keepIn K (.ref f26) = true)
    (a27 : PySem.W.nsIn K mainGlobals "lone_told" = some (some (.ref f27)))
    (l27 : K.lookup f27 = some ⟨oc27, od27, .func (PySem.W.fnOf "lone_told" "lone_told" (defArgs s_lone_told) (defBody s_lone_told) (defScope s_lone_told) .none kV27 dc27 pm27 an27 cd27 ct27), sl27⟩) (c27 : PySem.W.codeIn K cd27 "lone_told" = true) (k27 : PySem.W.keepIn K (.ref f27) = true)
    (a28 : PySem.W.nsIn K mainGlobals "lone_gaps" = some (some (.ref f28)))
    (l28 : K.lookup f28 = some ⟨oc28, od28, .func (PySem.W.fnOf "lone_gaps" "lone_gaps" (defArgs s_lone_gaps) (defBody s_lone_gaps) (defScope s_lone_gaps) .none kV28 dc28 pm28 an28 cd28 ct28), sl28⟩) (c28 : PySem.W.codeIn K cd28 "lone_gaps" = true) (k28 : PySem.W.keepIn K (.ref f28) = true)
    (a29 : PySem.W.nsIn K mainGlobals "links_of" = some (some (.ref f29)))
    (l29 : K.lookup f29 = some ⟨oc29, od29, .func (PySem.W.fnOf "links_of" "links_of" (defArgs s_links_of) (defBody s_links_of) (defScope s_links_of) .none kV29 dc29 pm29 an29 cd29 ct29), sl29⟩) (c29 : PySem.W.codeIn K cd29 "links_of" = true) (k29 : PySem.W.keepIn K (.ref f29) = true)
    (a30 : PySem.W.nsIn K mainGlobals "grown" = some (some (.ref f30)))
    (l30 : K.lookup f30 = some ⟨oc30, od30, .func (PySem.W.fnOf "grown" "grown" (defArgs s_grown) (defBody s_grown) (defScope s_grown) .none kV30 dc30 pm30 an30 cd30 ct30), sl30⟩) (c30 : PySem.W.codeIn K cd30 "grown" = true) (k30 : PySem.W.keepIn K (.ref f30) = true)
    (a31 : PySem.W.nsIn K mainGlobals "leads" = some (some (.ref f31)))
    (l31 : K.lookup f31 = some ⟨oc31, od31, .func (PySem.W.fnOf "leads" "leads" (defArgs s_leads) (defBody s_leads) (defScope s_leads) .none kV31 dc31 pm31 an31 cd31 ct31), sl31⟩) (c31 : PySem.W.codeIn K cd31 "leads" = true) (k31 : PySem.W.keepIn K (.ref f31) = true)
    (a32 : PySem.W.nsIn K mainGlobals "is_told" = some (some (.ref f32)))
    (l32 : K.lookup f32 = some ⟨oc32, od32, .func (PySem.W.fnOf "is_told" "is_told" (defArgs s_is_told) (defBody s_is_told) (defScope s_is_told) .none kV32 dc32 pm32 an32 cd32 ct32), sl32⟩) (c32 : PySem.W.codeIn K cd32 "is_told" = true) (k32 : PySem.W.keepIn K (.ref f32) = true)
    (a33 : PySem.W.nsIn K mainGlobals "distances" = some (some (.ref f33)))
    (l33 : K.lookup f33 = some ⟨oc33, od33, .func (PySem.W.fnOf "distances" "distances" (defArgs s_distances) (defBody s_distances) (defScope s_distances) .none kV33 dc33 pm33 an33 cd33 ct33), sl33⟩) (c33 : PySem.W.codeIn K cd33 "distances" = true) (k33 : PySem.W.keepIn K (.ref f33) = true)
    (a34 : PySem.W.nsIn K mainGlobals "shortest" = some (some (.ref f34)))
    (l34 : K.lookup f34 = some ⟨oc34, od34, .func (PySem.W.fnOf "shortest" "shortest" (defArgs s_shortest) (defBody s_shortest) (defScope s_shortest) .none kV34 dc34 pm34 an34 cd34 ct34), sl34⟩) (c34 : PySem.W.codeIn K cd34 "shortest" = true) (k34 : PySem.W.keepIn K (.ref f34) = true)
    (a35 : PySem.W.nsIn K mainGlobals "zigzag" = some (some (.ref f35)))
    (l35 : K.lookup f35 = some ⟨oc35, od35, .func (PySem.W.fnOf "zigzag" "zigzag" (defArgs s_zigzag) (defBody s_zigzag) (defScope s_zigzag) .none kV35 dc35 pm35 an35 cd35 ct35), sl35⟩) (c35 : PySem.W.codeIn K cd35 "zigzag" = true) (k35 : PySem.W.keepIn K (.ref f35) = true)
    (a36 : PySem.W.nsIn K mainGlobals "check_words" = some (some (.ref f36)))
    (l36 : K.lookup f36 = some ⟨oc36, od36, .func (PySem.W.fnOf "check_words" "check_words" (defArgs s_check_words) (defBody s_check_words) (defScope s_check_words) .none kV36 dc36 pm36 an36 cd36 ct36), sl36⟩) (c36 : PySem.W.codeIn K cd36 "check_words" = true) (k36 : PySem.W.keepIn K (.ref f36) = true)
    (a37 : PySem.W.nsIn K mainGlobals "leads_all" = some (some (.ref f37)))
    (l37 : K.lookup f37 = some ⟨oc37, od37, .func (PySem.W.fnOf "leads_all" "leads_all" (defArgs s_leads_all) (defBody s_leads_all) (defScope s_leads_all) .none kV37 dc37 pm37 an37 cd37 ct37), sl37⟩) (c37 : PySem.W.codeIn K cd37 "leads_all" = true) (k37 : PySem.W.keepIn K (.ref f37) = true)
    (a38 : PySem.W.nsIn K mainGlobals "tells" = some (some (.ref f38)))
    (l38 : K.lookup f38 = some ⟨oc38, od38, .func (PySem.W.fnOf "tells" "tells" (defArgs s_tells) (defBody s_tells) (defScope s_tells) .none kV38 dc38 pm38 an38 cd38 ct38), sl38⟩) (c38 : PySem.W.codeIn K cd38 "tells" = true) (k38 : PySem.W.keepIn K (.ref f38) = true)
    (a39 : PySem.W.nsIn K mainGlobals "needless" = some (some (.ref f39)))
    (l39 : K.lookup f39 = some ⟨oc39, od39, .func (PySem.W.fnOf "needless" "needless" (defArgs s_needless) (defBody s_needless) (defScope s_needless) .none kV39 dc39 pm39 an39 cd39 ct39), sl39⟩) (c39 : PySem.W.codeIn K cd39 "needless" = true) (k39 : PySem.W.keepIn K (.ref f39) = true)
    (a40 : PySem.W.nsIn K mainGlobals "told_words" = some (some (.ref f40)))
    (l40 : K.lookup f40 = some ⟨oc40, od40, .func (PySem.W.fnOf "told_words" "told_words" (defArgs s_told_words) (defBody s_told_words) (defScope s_told_words) .none kV40 dc40 pm40 an40 cd40 ct40), sl40⟩) (c40 : PySem.W.codeIn K cd40 "told_words" = true) (k40 : PySem.W.keepIn K (.ref f40) = true)
    (a41 : PySem.W.nsIn K mainGlobals "_law_flag" = some (some (.ref f41)))
    (l41 : K.lookup f41 = some ⟨oc41, od41, .func (PySem.W.fnOf "_law_flag" "_law_flag" (defArgs s_l_flag) (defBody s_l_flag) (defScope s_l_flag) .none kV41 dc41 pm41 an41 cd41 ct41), sl41⟩) (c41 : PySem.W.codeIn K cd41 "_law_flag" = true) (k41 : PySem.W.keepIn K (.ref f41) = true)
    (a42 : PySem.W.nsIn K mainGlobals "_law_tape" = some (some (.ref f42)))
    (l42 : K.lookup f42 = some ⟨oc42, od42, .func (PySem.W.fnOf "_law_tape" "_law_tape" (defArgs s_l_tape) (defBody s_l_tape) (defScope s_l_tape) .none kV42 dc42 pm42 an42 cd42 ct42), sl42⟩) (c42 : PySem.W.codeIn K cd42 "_law_tape" = true) (k42 : PySem.W.keepIn K (.ref f42) = true)
    (a43 : PySem.W.nsIn K mainGlobals "_law_pick" = some (some (.ref f43)))
    (l43 : K.lookup f43 = some ⟨oc43, od43, .func (PySem.W.fnOf "_law_pick" "_law_pick" (defArgs s_l_pick) (defBody s_l_pick) (defScope s_l_pick) .none kV43 dc43 pm43 an43 cd43 ct43), sl43⟩) (c43 : PySem.W.codeIn K cd43 "_law_pick" = true) (k43 : PySem.W.keepIn K (.ref f43) = true)
    (a44 : PySem.W.nsIn K mainGlobals "_law_common" = some (some (.ref f44)))
    (l44 : K.lookup f44 = some ⟨oc44, od44, .func (PySem.W.fnOf "_law_common" "_law_common" (defArgs s_l_common) (defBody s_l_common) (defScope s_l_common) .none kV44 dc44 pm44 an44 cd44 ct44), sl44⟩) (c44 : PySem.W.codeIn K cd44 "_law_common" = true) (k44 : PySem.W.keepIn K (.ref f44) = true)
    (a45 : PySem.W.nsIn K mainGlobals "_law_divisor" = some (some (.ref f45)))
    (l45 : K.lookup f45 = some ⟨oc45, od45, .func (PySem.W.fnOf "_law_divisor" "_law_divisor" (defArgs s_l_divisor) (defBody s_l_divisor) (defScope s_l_divisor) .none kV45 dc45 pm45 an45 cd45 ct45), sl45⟩) (c45 : PySem.W.codeIn K cd45 "_law_divisor" = true) (k45 : PySem.W.keepIn K (.ref f45) = true)
    (a46 : PySem.W.nsIn K mainGlobals "_law_reach" = some (some (.ref f46)))
    (l46 : K.lookup f46 = some ⟨oc46, od46, .func (PySem.W.fnOf "_law_reach" "_law_reach" (defArgs s_l_reach) (defBody s_l_reach) (defScope s_l_reach) .none kV46 dc46 pm46 an46 cd46 ct46), sl46⟩) (c46 : PySem.W.codeIn K cd46 "_law_reach" = true) (k46 : PySem.W.keepIn K (.ref f46) = true)
    (a47 : PySem.W.nsIn K mainGlobals "_law_flag_at" = some (some (.ref f47)))
    (l47 : K.lookup f47 = some ⟨oc47, od47, .func (PySem.W.fnOf "_law_flag_at" "_law_flag_at" (defArgs s_l_flag_at) (defBody s_l_flag_at) (defScope s_l_flag_at) .none kV47 dc47 pm47 an47 cd47 ct47), sl47⟩) (c47 : PySem.W.codeIn K cd47 "_law_flag_at" = true) (k47 : PySem.W.keepIn K (.ref f47) = true)
    (a48 : PySem.W.nsIn K mainGlobals "law" = some (some (.ref f48)))
    (l48 : K.lookup f48 = some ⟨oc48, od48, .func (PySem.W.fnOf "law" "law" (defArgs s_law) (defBody s_law) (defScope s_law) .none kV48 dc48 pm48 an48 cd48 ct48), sl48⟩) (c48 : PySem.W.codeIn K cd48 "law" = true) (k48 : PySem.W.keepIn K (.ref f48) = true)
    (z0 : PySem.W.nsIn K mainGlobals "isinstance" = some none)
    (z1 : PySem.W.nsIn K mainGlobals "int" = some none)
    (z2 : PySem.W.nsIn K mainGlobals "bool" = some none)
    (z3 : PySem.W.nsIn K mainGlobals "str" = some none)
    (z4 : PySem.W.nsIn K mainGlobals "all" = some none)
    (z5 : PySem.W.nsIn K mainGlobals "len" = some none)
    (z6 : PySem.W.nsIn K mainGlobals "sorted" = some none)
    (z7 : PySem.W.nsIn K mainGlobals "enumerate" = some none)
    (z8 : PySem.W.nsIn K mainGlobals "tuple" = some none)
    (z9 : PySem.W.nsIn K mainGlobals "list" = some none)
    (z10 : PySem.W.nsIn K mainGlobals "range" = some none)
    (z11 : PySem.W.nsIn K mainGlobals "abs" = some none)
    (z12 : PySem.W.nsIn K mainGlobals "sum" = some none)
    (z13 : PySem.W.nsIn K mainGlobals "set" = some none)
    {t0 : Tok} (y0 : PySem.W.nsIn K mainGlobals "LETTERS" = some (some (.str "abcdefghijklmnopqrstuvwxyz" t0)))
    {t1 : Tok} (y1 : PySem.W.nsIn K mainGlobals "MOST_WORD" = some (some (.int 40 t1)))
    {t2 : Tok} (y2 : PySem.W.nsIn K mainGlobals "MOST_WATCH" = some (some (.int 12 t2)))
    {t3 : Tok} (y3 : PySem.W.nsIn K mainGlobals "MOST_WATCHES" = some (some (.int 12 t3)))
    {t4 : Tok} (y4 : PySem.W.nsIn K mainGlobals "MOST_PART" = some (some (.int 20 t4)))
    {t5 : Tok} (y5 : PySem.W.nsIn K mainGlobals "MOST_TIMES" = some (some (.int (10 ^ 30) t5)))
    {t6 : Tok} (y6 : PySem.W.nsIn K mainGlobals "MOST_LENGTHS" = some (some (.int 8 t6)))
    {t7 : Tok} (y7 : PySem.W.nsIn K mainGlobals "MOST_LENGTH" = some (some (.int 60 t7)))
    {t8 : Tok} (y8 : PySem.W.nsIn K mainGlobals "MOST_LAST" = some (some (.int (10 ^ 30) t8)))
    {t9 : Tok} (y9 : PySem.W.nsIn K mainGlobals "MOST_WORDS" = some (some (.int 20 t9)))
    {t10 : Tok} (y10 : PySem.W.nsIn K mainGlobals "MOST_LETTERS" = some (some (.int 3 t10)))
    {t11 : Tok} (y11 : PySem.W.nsIn K mainGlobals "MOST_SIZE" = some (some (.int 6 t11)))
    : ∃ fd : FuncData, (∀ (s : Shared) (v : Value), BindsTo s fd ⟨[v], []⟩ [("_law_script", v)]) ∧ ∀ base : Heap, K.In base → base.Ns mainGlobals mg → FnOk l.prog w K mg base CX0 7 fa fd ["_law_script"] (sp_law K) := by
  have e := hfa.symm.trans (PySem.W.mg_of X G a48)
  cases e
  have F1 := fun_mk (st := s_is_integer) l1 c1 k1
  have F2 := fun_mk (st := s_is_letters) l2 c2 k2
  have F3 := fun_mk (st := s_is_word) l3 c3 k3
  have F4 := fun_mk (st := s_is_watch) l4 c4 k4
  have F5 := fun_mk (st := s_check_word) l5 c5 k5
  have F6 := fun_mk (st := s_text_key) l6 c6 k6
  have F7 := fun_mk (st := s_in_order) l7 c7 k7
  have F8 := fun_mk (st := s_Book_init) l8 c8 k8
  have F9 := fun_mk (st := s_Book_with_watch) l9 c9 k9
  have F10 := fun_mk (st := s_check_book) l10 c10 k10
  have F11 := fun_mk (st := s_renamed) l11 c11 k11
  have F12 := fun_mk (st := s_fresh_state) l12 c12 k12
  have F13 := fun_mk (st := s_with_letter) l13 c13 k13
  have F14 := fun_mk (st := s_with_letters) l14 c14 k14
  have F15 := fun_mk (st := s_is_met) l15 c15 k15
  have F16 := fun_mk (st := s_flags_of) l16 c16 k16
  have F17 := fun_mk (st := s_least_round) l17 c17 k17
  have F18 := fun_mk (st := s_check_parts) l18 c18 k18
  have F19 := fun_mk (st := s_powers) l19 c19 k19
  have F20 := fun_mk (st := s_far_told) l20 c20 k20
  have F21 := fun_mk (st := s_common) l21 c21 k21
  have F22 := fun_mk (st := s_check_lengths) l22 c22 k22
  have F23 := fun_mk (st := s_divisor_of) l23 c23 k23
  have F24 := fun_mk (st := s_far_from) l24 c24 k24
  have F25 := fun_mk (st := s_steps_reach) l25 c25 k25
  have F26 := fun_mk (st := s_is_reached) l26 c26 k26
  have F27 := fun_mk (st := s_lone_told) l27 c27 k27
  have F28 := fun_mk (st := s_lone_gaps) l28 c28 k28
  have F29 := fun_mk (st := s_links_of) l29 c29 k29
  have F30 := fun_mk (st := s_grown) l30 c30 k30
  have F31 := fun_mk (st := s_leads) l31 c31 k31
  have F32 := fun_mk (st := s_is_told) l32 c32 k32
  have F33 := fun_mk (st := s_distances) l33 c33 k33
  have F34 := fun_mk (st := s_shortest) l34 c34 k34
  have F35 := fun_mk (st := s_zigzag) l35 c35 k35
  have F36 := fun_mk (st := s_check_words) l36 c36 k36
  have F37 := fun_mk (st := s_leads_all) l37 c37 k37
  have F38 := fun_mk (st := s_tells) l38 c38 k38
  have F39 := fun_mk (st := s_needless) l39 c39 k39
  have F40 := fun_mk (st := s_told_words) l40 c40 k40
  have F41 := fun_mk (st := s_l_flag) l41 c41 k41
  have F42 := fun_mk (st := s_l_tape) l42 c42 k42
  have F43 := fun_mk (st := s_l_pick) l43 c43 k43
  have F44 := fun_mk (st := s_l_common) l44 c44 k44
  have F45 := fun_mk (st := s_l_divisor) l45 c45 k45
  have F46 := fun_mk (st := s_l_reach) l46 c46 k46
  have F47 := fun_mk (st := s_l_flag_at) l47 c47 k47
  have F48 := fun_mk (st := s_law) l48 c48 k48
  let T : Txt K mg := {
    C_Book := C0, c_Book := PySem.W.mg_of X G u0,
    cl_Book := ⟨pg0, hd0, po0, sa0⟩, ty_Book := ⟨wc0, wn0, wt0, wm0, kit_self⟩,
    na_Book_watches := na0_0,
    f_is_integer := f1, fd_is_integer := _, F_is_integer := F1, g_is_integer := PySem.W.mg_of X G a1, b_is_integer := F1.binds (ps := ["value"]) fun _ _ _ _ _ _ us hl => match us, hl with | [_], _ => rfl,
    f_is_letters := f2, fd_is_letters := _, F_is_letters := F2, g_is_letters := PySem.W.mg_of X G a2, b_is_letters := F2.binds (ps := ["value"]) fun _ _ _ _ _ _ us hl => match us, hl with | [_], _ => rfl,
    f_is_word := f3, fd_is_word := _, F_is_word := F3, g_is_word := PySem.W.mg_of X G a3, b_is_word := F3.binds (ps := ["thing"]) fun _ _ _ _ _ _ us hl => match us, hl with | [_], _ => rfl,
    f_is_watch := f4, fd_is_watch := _, F_is_watch := F4, g_is_watch := PySem.W.mg_of X G a4, b_is_watch := F4.binds (ps := ["thing"]) fun _ _ _ _ _ _ us hl => match us, hl with | [_], _ => rfl,
    f_check_word := f5, fd_check_word := _, F_check_word := F5, g_check_word := PySem.W.mg_of X G a5, b_check_word := F5.binds (ps := ["word"]) fun _ _ _ _ _ _ us hl => match us, hl with | [_], _ => rfl,
    f_text_key := f6, fd_text_key := _, F_text_key := F6, g_text_key := PySem.W.mg_of X G a6, b_text_key := F6.binds (ps := ["text"]) fun _ _ _ _ _ _ us hl => match us, hl with | [_], _ => rfl,
    f_in_order := f7, fd_in_order := _, F_in_order := F7, g_in_order := PySem.W.mg_of X G a7, b_in_order := F7.binds (ps := ["texts"]) fun _ _ _ _ _ _ us hl => match us, hl with | [_], _ => rfl,
    f_Book_init := f8, fd_Book_init := _, F_Book_init := F8, M_Book := ⟨mk0, a8, i8, kc0⟩, b_Book_init := F8.binds (ps := ["self", "watches"]) fun _ _ _ _ _ _ us hl => match us, hl with | [_, _], _ => rfl,
    f_Book_with_watch := f9, fd_Book_with_watch := _, F_Book_with_watch := F9, h_Book_with_watch := ⟨a9, i9, k9⟩, b_Book_with_watch := F9.binds (ps := ["self", "watch"]) fun _ _ _ _ _ _ us hl => match us, hl with | [_, _], _ => rfl,
    f_check_book := f10, fd_check_book := _, F_check_book := F10, g_check_book := PySem.W.mg_of X G a10, b_check_book := F10.binds (ps := ["book"]) fun _ _ _ _ _ _ us hl => match us, hl with | [_], _ => rfl,
    f_renamed := f11, fd_renamed := _, F_renamed := F11, g_renamed := PySem.W.mg_of X G a11, b_renamed := F11.binds (ps := ["marks"]) fun _ _ _ _ _ _ us hl => match us, hl with | [_], _ => rfl,
    f_fresh_state := f12, fd_fresh_state := _, F_fresh_state := F12, g_fresh_state := PySem.W.mg_of X G a12, b_fresh_state := F12.binds (ps := []) fun _ _ _ _ _ _ us hl => match us, hl with | [], _ => rfl,
    f_with_letter := f13, fd_with_letter := _, F_with_letter := F13, g_with_letter := PySem.W.mg_of X G a13, b_with_letter := F13.binds (ps := ["watches", "state", "letter"]) fun _ _ _ _ _ _ us hl => match us, hl with | [_, _, _], _ => rfl,
    f_with_letters := f14, fd_with_letters := _, F_with_letters := F14, g_with_letters := PySem.W.mg_of X G a14, b_with_letters := F14.binds (ps := ["watches", "state", "letters"]) fun _ _ _ _ _ _ us hl => match us, hl with | [_, _, _], _ => rfl,
    f_is_met := f15, fd_is_met := _, F_is_met := F15, g_is_met := PySem.W.mg_of X G a15, b_is_met := F15.binds (ps := ["state"]) fun _ _ _ _ _ _ us hl => match us, hl with | [_], _ => rfl,
    f_flags_of := f16, fd_flags_of := _, F_flags_of := F16, g_flags_of := PySem.W.mg_of X G a16, b_flags_of := F16.binds (ps := ["book", "before", "middle", "behind"]) fun _ _ _ _ _ _ us hl => match us, hl with | [_, _, _, _], _ => rfl,
    f_least_round := f17, fd_least_round := _, F_least_round := F17, g_least_round := PySem.W.mg_of X G a17, b_least_round := F17.binds (ps := ["flags"]) fun _ _ _ _ _ _ us hl => match us, hl with | [_], _ => rfl,
    f_check_parts := f18, fd_check_parts := _, F_check_parts := F18, g_check_parts := PySem.W.mg_of X G a18, b_check_parts := F18.binds (ps := ["before", "middle", "behind"]) fun _ _ _ _ _ _ us hl => match us, hl with | [_, _, _], _ => rfl,
    f_powers := f19, fd_powers := _, F_powers := F19, g_powers := PySem.W.mg_of X G a19, b_powers := F19.binds (ps := ["book", "before", "middle", "behind"]) fun _ _ _ _ _ _ us hl => match us, hl with | [_, _, _, _], _ => rfl,
    f_far_told := f20, fd_far_told := _, F_far_told := F20, g_far_told := PySem.W.mg_of X G a20, b_far_told := F20.binds (ps := ["book", "before", "middle", "behind", "times"]) fun _ _ _ _ _ _ us hl => match us, hl with | [_, _, _, _, _], _ => rfl,
    f_common := f21, fd_common := _, F_common := F21, g_common := PySem.W.mg_of X G a21, b_common := F21.binds (ps := ["one", "other"]) fun _ _ _ _ _ _ us hl => match us, hl with | [_, _], _ => rfl,
    f_check_lengths := f22, fd_check_lengths := _, F_check_lengths := F22, g_check_lengths := PySem.W.mg_of X G a22, b_check_lengths := F22.binds (ps := ["lengths"]) fun _ _ _ _ _ _ us hl => match us, hl with | [_], _ => rfl,
    f_divisor_of := f23, fd_divisor_of := _, F_divisor_of := F23, g_divisor_of := PySem.W.mg_of X G a23, b_divisor_of := F23.binds (ps := ["lengths"]) fun _ _ _ _ _ _ us hl => match us, hl with | [_], _ => rfl,
    f_far_from := f24, fd_far_from := _, F_far_from := F24, g_far_from := PySem.W.mg_of X G a24, b_far_from := F24.binds (ps := ["lengths"]) fun _ _ _ _ _ _ us hl => match us, hl with | [_], _ => rfl,
    f_steps_reach := f25, fd_steps_reach := _, F_steps_reach := F25, g_steps_reach := PySem.W.mg_of X G a25, b_steps_reach := F25.binds (ps := ["lengths", "last"]) fun _ _ _ _ _ _ us hl => match us, hl with | [_, _], _ => rfl,
    f_is_reached := f26, fd_is_reached := _, F_is_reached := F26, g_is_reached := PySem.W.mg_of X G a26, b_is_reached := F26.binds (ps := ["lengths", "last"]) fun _ _ _ _ _ _ us hl => match us, hl with | [_, _], _ => rfl,
    f_lone_told := f27, fd_lone_told := _, F_lone_told := F27, g_lone_told := PySem.W.mg_of X G a27, b_lone_told := F27.binds (ps := ["lengths", "last"]) fun _ _ _ _ _ _ us hl => match us, hl with | [_, _], _ => rfl,
    f_lone_gaps := f28, fd_lone_gaps := _, F_lone_gaps := F28, g_lone_gaps := PySem.W.mg_of X G a28, b_lone_gaps := F28.binds (ps := ["lengths"]) fun _ _ _ _ _ _ us hl => match us, hl with | [_], _ => rfl,
    f_links_of := f29, fd_links_of := _, F_links_of := F29, g_links_of := PySem.W.mg_of X G a29, b_links_of := F29.binds (ps := ["watches", "word"]) fun _ _ _ _ _ _ us hl => match us, hl with | [_, _], _ => rfl,
    f_grown := f30, fd_grown := _, F_grown := F30, g_grown := PySem.W.mg_of X G a30, b_grown := F30.binds (ps := ["links", "spots"]) fun _ _ _ _ _ _ us hl => match us, hl with | [_, _], _ => rfl,
    f_leads := f31, fd_leads := _, F_leads := F31, g_leads := PySem.W.mg_of X G a31, b_leads := F31.binds (ps := ["watches", "word"]) fun _ _ _ _ _ _ us hl => match us, hl with | [_, _], _ => rfl,
    f_is_told := f32, fd_is_told := _, F_is_told := F32, g_is_told := PySem.W.mg_of X G a32, b_is_told := F32.binds (ps := ["book", "word"]) fun _ _ _ _ _ _ us hl => match us, hl with | [_, _], _ => rfl,
    f_distances := f33, fd_distances := _, F_distances := F33, g_distances := PySem.W.mg_of X G a33, b_distances := F33.binds (ps := ["links"]) fun _ _ _ _ _ _ us hl => match us, hl with | [_], _ => rfl,
    f_shortest := f34, fd_shortest := _, F_shortest := F34, g_shortest := PySem.W.mg_of X G a34, b_shortest := F34.binds (ps := ["watches", "word"]) fun _ _ _ _ _ _ us hl => match us, hl with | [_, _], _ => rfl,
    f_zigzag := f35, fd_zigzag := _, F_zigzag := F35, g_zigzag := PySem.W.mg_of X G a35, b_zigzag := F35.binds (ps := ["book", "word"]) fun _ _ _ _ _ _ us hl => match us, hl with | [_, _], _ => rfl,
    f_check_words := f36, fd_check_words := _, F_check_words := F36, g_check_words := PySem.W.mg_of X G a36, b_check_words := F36.binds (ps := ["words"]) fun _ _ _ _ _ _ us hl => match us, hl with | [_], _ => rfl,
    f_leads_all := f37, fd_leads_all := _, F_leads_all := F37, g_leads_all := PySem.W.mg_of X G a37, b_leads_all := F37.binds (ps := ["watches", "words"]) fun _ _ _ _ _ _ us hl => match us, hl with | [_, _], _ => rfl,
    f_tells := f38, fd_tells := _, F_tells := F38, g_tells := PySem.W.mg_of X G a38, b_tells := F38.binds (ps := ["book", "words"]) fun _ _ _ _ _ _ us hl => match us, hl with | [_, _], _ => rfl,
    f_needless := f39, fd_needless := _, F_needless := F39, g_needless := PySem.W.mg_of X G a39, b_needless := F39.binds (ps := ["book"]) fun _ _ _ _ _ _ us hl => match us, hl with | [_], _ => rfl,
    f_told_words := f40, fd_told_words := _, F_told_words := F40, g_told_words := PySem.W.mg_of X G a40, b_told_words := F40.binds (ps := ["book", "letters", "most"]) fun _ _ _ _ _ _ us hl => match us, hl with | [_, _, _], _ => rfl,
    f_l_flag := f41, fd_l_flag := _, F_l_flag := F41, g_l_flag := PySem.W.mg_of X G a41, b_l_flag := F41.binds (ps := ["_law_told", "_law_due"]) fun _ _ _ _ _ _ us hl => match us, hl with | [_, _], _ => rfl,
    f_l_tape := f42, fd_l_tape := _, F_l_tape := F42, g_l_tape := PySem.W.mg_of X G a42, b_l_tape := F42.binds (ps := ["_law_script"]) fun _ _ _ _ _ _ us hl => match us, hl with | [_], _ => rfl,
    f_l_pick := f43, fd_l_pick := _, F_l_pick := F43, g_l_pick := PySem.W.mg_of X G a43, b_l_pick := F43.binds (ps := ["_law_tape_here", "_law_size"]) fun _ _ _ _ _ _ us hl => match us, hl with | [_, _], _ => rfl,
    f_l_common := f44, fd_l_common := _, F_l_common := F44, g_l_common := PySem.W.mg_of X G a44, b_l_common := F44.binds (ps := ["_law_one", "_law_other"]) fun _ _ _ _ _ _ us hl => match us, hl with | [_, _], _ => rfl,
    f_l_divisor := f45, fd_l_divisor := _, F_l_divisor := F45, g_l_divisor := PySem.W.mg_of X G a45, b_l_divisor := F45.binds (ps := ["_law_lengths_here"]) fun _ _ _ _ _ _ us hl => match us, hl with | [_], _ => rfl,
    f_l_reach := f46, fd_l_reach := _, F_l_reach := F46, g_l_reach := PySem.W.mg_of X G a46, b_l_reach := F46.binds (ps := ["_law_lengths_here", "_law_last"]) fun _ _ _ _ _ _ us hl => match us, hl with | [_, _], _ => rfl,
    f_l_flag_at := f47, fd_l_flag_at := _, F_l_flag_at := F47, g_l_flag_at := PySem.W.mg_of X G a47, b_l_flag_at := F47.binds (ps := ["_law_told", "_law_times"]) fun _ _ _ _ _ _ us hl => match us, hl with | [_, _], _ => rfl,
    f_law := fa, fd_law := _, F_law := F48, g_law := PySem.W.mg_of X G a48, b_law := F48.binds (ps := ["_law_script"]) fun _ _ _ _ _ _ us hl => match us, hl with | [_], _ => rfl,
    n_isinstance := PySem.W.mg_none_of X G z0,
    n_int := PySem.W.mg_none_of X G z1,
    n_bool := PySem.W.mg_none_of X G z2,
    n_str := PySem.W.mg_none_of X G z3,
    n_all := PySem.W.mg_none_of X G z4,
    n_len := PySem.W.mg_none_of X G z5,
    n_sorted := PySem.W.mg_none_of X G z6,
    n_enumerate := PySem.W.mg_none_of X G z7,
    n_tuple := PySem.W.mg_none_of X G z8,
    n_list := PySem.W.mg_none_of X G z9,
    n_range := PySem.W.mg_none_of X G z10,
    n_abs := PySem.W.mg_none_of X G z11,
    n_sum := PySem.W.mg_none_of X G z12,
    n_set := PySem.W.mg_none_of X G z13,
    t_LETTERS := t0, m_LETTERS := PySem.W.mg_of X G y0,
    t_MOST_WORD := t1, m_MOST_WORD := PySem.W.mg_of X G y1,
    t_MOST_WATCH := t2, m_MOST_WATCH := PySem.W.mg_of X G y2,
    t_MOST_WATCHES := t3, m_MOST_WATCHES := PySem.W.mg_of X G y3,
    t_MOST_PART := t4, m_MOST_PART := PySem.W.mg_of X G y4,
    t_MOST_TIMES := t5, m_MOST_TIMES := PySem.W.mg_of X G y5,
    t_MOST_LENGTHS := t6, m_MOST_LENGTHS := PySem.W.mg_of X G y6,
    t_MOST_LENGTH := t7, m_MOST_LENGTH := PySem.W.mg_of X G y7,
    t_MOST_LAST := t8, m_MOST_LAST := PySem.W.mg_of X G y8,
    t_MOST_WORDS := t9, m_MOST_WORDS := PySem.W.mg_of X G y9,
    t_MOST_LETTERS := t10, m_MOST_LETTERS := PySem.W.mg_of X G y10,
    t_MOST_SIZE := t11, m_MOST_SIZE := PySem.W.mg_of X G y11 }
  exact ⟨_, fun s v => .of_eq rfl, fun base _ _ => ok_law T⟩
theorem walk {l : PySem.W.OpenLaw} {q : Program} {loose : List Str} {XP : (Str → Option Value) → Heap → Prop} {YP : World → Heap → Prop} {d : DefRec} {K : Params → PySem.W.Frag} (hn : l.most = some 63) (hdf : d.params.defaults = [])
    (hY : ∀ (w : World) (h : Heap), YP w h → (K w.params).In h)
    (F : ∀ (w : World) (mg : Str → Option Value) (fa : Addr) (h : Heap), (K w.params).In h → h.Ns mainGlobals mg → mg d.name = some (.ref fa) →
      ∃ fd : FuncData, (∀ (s : Shared) (u : Value), BindsTo s fd ⟨[u], []⟩ [("_law_script", u)]) ∧ ∀ base : Heap, (K w.params).In base → base.Ns mainGlobals mg → FnOk l.prog w (K w.params) mg base CX0 7 fa fd ["_law_script"] (sp_law (K w.params))) :
    PySem.W.WalkO q loose XP YP l.row.toRowW d [] (fun f vs => PySem.call f vs) :=
  L2.walk_of (n := 63) (k := 7) (x := "_law_script") (CX := fun _ => CX0) (sp := fun w => sp_law (K w.params)) hn (by decide) hdf ⟨rfl, by decide, by decide⟩ hY F (fun _ _ a ns hl _ hS => ⟨a, ns, rfl, hS, hl, fun _ => rfl⟩) fun _ _ _ _ _ z => z
end W
open PySem PySem.W PyProof.Rows
set_option maxRecDepth 100000 in
set_option maxHeartbeats 0 in
theorem PySem.Challenge.cw_watchedways_k87_whole_lone_and_far_holds : PySem.Challenge.rw_watchedways_k87_whole_lone_and_far.Holds := by
  w_on; o_law; k_head; (case hw => w_witness2)
  k_fill
  refine W.walk (l := PySem.Challenge.rw_watchedways_k87_whole_lone_and_far) rfl rfl (fun w h Y => PySem.W.kIn_of Y) ?F
  case F =>
    intro w mg fa h KX G hmg
    refine' W.all_mk KX G hmg ?u0 ?pg0 ?hd0 ?po0 ?sa0 ?wc0 ?wm0 ?wn0 ?wt0 ?na0_0 ?a1 ?l1 ?c1 ?k1 ?a2 ?l2 ?c2 ?k2 ?a3 ?l3 ?c3 ?k3 ?a4 ?l4 ?c4 ?k4 ?a5 ?l5 ?c5 ?k5 ?a6 ?l6 ?c6 ?k6 ?a7 ?l7 ?c7 ?k7 ?a8 ?i8 ?mk0 ?kc0 ?l8 ?c8 ?k8 ?a9 ?i9 ?l9 ?c9 ?k9 ?a10 ?l10 ?c10 ?k10 ?a11 ?l11 ?c11 ?k11 ?a12 ?l12 ?c12 ?k12 ?a13 ?l13 ?c13 ?k13 ?a14 ?l14 ?c14 ?k14 ?a15 ?l15 ?c15 ?k15 ?a16 ?l16 ?c16 ?k16 ?a17 ?l17 ?c17 ?k17 ?a18 ?l18 ?c18 ?k18 ?a19 ?l19 ?c19 ?k19 ?a20 ?l20 ?c20 ?k20 ?a21 ?l21 ?c21 ?k21 ?a22 ?l22 ?c22 ?k22 ?a23 ?l23 ?c23 ?k23 ?a24 ?l24 ?c24 ?k24 ?a25 ?l25 ?c25 ?k25 ?a26 ?l26 ?c26 ?k26 ?a27 ?l27 ?c27 ?k27 ?a28 ?l28 ?c28 ?k28 ?a29 ?l29 ?c29 ?k29 ?a30 ?l30 ?c30 ?k30 ?a31 ?l31 ?c31 ?k31 ?a32 ?l32 ?c32 ?k32 ?a33 ?l33 ?c33 ?k33 ?a34 ?l34 ?c34 ?k34 ?a35 ?l35 ?c35 ?k35 ?a36 ?l36 ?c36 ?k36 ?a37 ?l37 ?c37 ?k37 ?a38 ?l38 ?c38 ?k38 ?a39 ?l39 ?c39 ?k39 ?a40 ?l40 ?c40 ?k40 ?a41 ?l41 ?c41 ?k41 ?a42 ?l42 ?c42 ?k42 ?a43 ?l43 ?c43 ?k43 ?a44 ?l44 ?c44 ?k44 ?a45 ?l45 ?c45 ?k45 ?a46 ?l46 ?c46 ?k46 ?a47 ?l47 ?c47 ?k47 ?a48 ?l48 ?c48 ?k48 ?z0 ?z1 ?z2 ?z3 ?z4 ?z5 ?z6 ?z7 ?z8 ?z9 ?z10 ?z11 ?z12 ?z13 ?y0 ?y1 ?y2 ?y3 ?y4 ?y5 ?y6 ?y7 ?y8 ?y9 ?y10 ?y11
    (case u0 => k_is); (case pg0 => k_is); (case hd0 => k_is); (case po0 => k_is); (case sa0 => k_is); (case wc0 => k_is); (case wm0 => k_is); (case wn0 => k_is); (case wt0 => k_is); (case na0_0 => k_is); (case a1 => k_is); (case l1 => k_is); (case c1 => k_is); (case k1 => k_is); (case a2 => k_is); (case l2 => k_is); (case c2 => k_is); (case k2 => k_is); (case a3 => k_is); (case l3 => k_is); (case c3 => k_is); (case k3 => k_is); (case a4 => k_is); (case l4 => k_is); (case c4 => k_is); (case k4 => k_is); (case a5 => k_is); (case l5 => k_is); (case c5 => k_is); (case k5 => k_is); (case a6 => k_is); (case l6 => k_is); (case c6 => k_is); (case k6 => k_is); (case a7 => k_is); (case l7 => k_is); (case c7 => k_is); (case k7 => k_is); (case a8 => k_is); (case i8 => k_is); (case mk0 => k_is); (case kc0 => k_is); (case l8 => k_is); (case c8 => k_is); (case k8 => k_is); (case a9 => k_is); (case i9 => k_is); (case l9 => k_is); (case c9 => k_is); (case k9 => k_is); (case a10 => k_is); (case l10 => k_is); (case c10 => k_is); (case k10 => k_is); (case a11 => k_is); (case l11 => k_is); (case c11 => k_is); (case k11 => k_is); (case a12 => k_is); (case l12 => k_is); (case c12 => k_is); (case k12 => k_is); (case a13 => k_is); (case l13 => k_is); (case c13 => k_is); (case k13 => k_is); (case a14 => k_is); (case l14 => k_is); (case c14 => k_is); (case k14 => k_is); (case a15 => k_is); (case l15 => k_is); (case c15 => k_is); (case k15 => k_is); (case a16 => k_is); (case l16 => k_is); (case c16 => k_is); (case k16 => k_is); (case a17 => k_is); (case l17 => k_is); (case c17 => k_is); (case k17 => k_is); (case a18 => k_is); (case l18 => k_is); (case c18 => k_is); (case k18 => k_is); (case a19 => k_is); (case l19 => k_is); (case c19 => k_is); (case k19 => k_is); (case a20 => k_is); (case l20 => k_is); (case c20 => k_is); (case k20 => k_is); (case a21 => k_is); (case l21 => k_is); (case c21 => k_is); (case k21 => k_is); (case a22 => k_is); (case l22 => k_is); (case c22 => k_is); (case k22 => k_is); (case a23 => k_is); (case l23 => k_is); (case c23 => k_is); (case k23 => k_is); (case a24 => k_is); (case l24 => k_is); (case c24 => k_is); (case k24 => k_is); (case a25 => k_is); (case l25 => k_is); (case c25 => k_is); (case k25 => k_is); (case a26 => k_is); (case l26 => k_is); (case c26 => k_is); (case k26 => k_is); (case a27 => k_is); (case l27 => k_is); (case c27 => k_is); (case k27 => k_is); (case a28 => k_is); (case l28 => k_is); (case c28 => k_is); (case k28 => k_is); (case a29 => k_is); (case l29 => k_is); (case c29 => k_is); (case k29 => k_is); (case a30 => k_is); (case l30 => k_is); (case c30 => k_is); (case k30 => k_is); (case a31 => k_is); (case l31 => k_is); (case c31 => k_is); (case k31 => k_is); (case a32 => k_is); (case l32 => k_is); (case c32 => k_is); (case k32 => k_is); (case a33 => k_is); (case l33 => k_is); (case c33 => k_is); (case k33 => k_is); (case a34 => k_is); (case l34 => k_is); (case c34 => k_is); (case k34 => k_is); (case a35 => k_is); (case l35 => k_is); (case c35 => k_is); (case k35 => k_is); (case a36 => k_is); (case l36 => k_is); (case c36 => k_is); (case k36 => k_is); (case a37 => k_is); (case l37 => k_is); (case c37 => k_is); (case k37 => k_is); (case a38 => k_is); (case l38 => k_is); (case c38 => k_is); (case k38 => k_is); (case a39 => k_is); (case l39 => k_is); (case c39 => k_is); (case k39 => k_is); (case a40 => k_is); (case l40 => k_is); (case c40 => k_is); (case k40 => k_is); (case a41 => k_is); (case l41 => k_is); (case c41 => k_is); (case k41 => k_is); (case a42 => k_is); (case l42 => k_is); (case c42 => k_is); (case k42 => k_is); (case a43 => k_is); (case l43 => k_is); (case c43 => k_is); (case k43 => k_is); (case a44 => k_is); (case l44 => k_is); (case c44 => k_is); (case k44 => k_is); (case a45 => k_is); (case l45 => k_is); (case c45 => k_is); (case k45 => k_is); (case a46 => k_is); (case l46 => k_is); (case c46 => k_is); (case k46 => k_is); (case a47 => k_is); (case l47 => k_is); (case c47 => k_is); (case k47 => k_is); (case a48 => k_is); (case l48 => k_is); (case c48 => k_is); (case k48 => k_is); (case z0 => k_is); (case z1 => k_is); (case z2 => k_is); (case z3 => k_is); (case z4 => k_is); (case z5 => k_is); (case z6 => k_is); (case z7 => k_is); (case z8 => k_is); (case z9 => k_is); (case z10 => k_is); (case z11 => k_is); (case z12 => k_is); (case z13 => k_is); (case y0 => k_is); (case y1 => k_is); (case y2 => k_is); (case y3 => k_is); (case y4 => k_is); (case y5 => k_is); (case y6 => k_is); (case y7 => k_is); (case y8 => k_is); (case y9 => k_is); (case y10 => k_is); (case y11 => k_is)
