import PyProof.Rows.All
import Wide.All
import OpenK.AllK
import Wide.FinOn
import HandS.ForMost
import HandS.SortInts
import HandS.Style
import HandS.IsInst
import HandS.Flow
import HandS.Conv
import HandS.Codes
import PyProof.Draws
import PyProof.EnumMake
import HandS.Walk
import HandS.Strs
import HandS.More
import HandS.Text
import HandS.Small
import HandS.SortKw
import KE.SortKeyed
import HandS.DictComp
import HandS.Zip
import HandS.Finally
import HandS.Exc
import HandS.ExcOwn
import HandS.ExcInit
import HandS.ExcIs
import HandS.TryOnly
import HandS.TryMany
import HandS.WordsExc
import HandS.Defaults
import HandS.CallSlots
import HandS.DeepEq
import HandS.OwnEq
import HandS.Wide
import KE.OsArith
import PyProof.ReprRoads
import HandS.Ends
import HandS.List
import HandS.TupAny
import KE.KLam
import KE.KNestM
import HandS.Lambda
import HandS.Nested
import HandS.EndTab
import HandS.Deep
import HandS.Base
import HandS.Call
import HandS.Words
import PySem.Challenge.RW_watchedways_k71_telling_refused
set_option Elab.async false
set_option linter.all false
set_option maxRecDepth 100000
set_option maxHeartbeats 4000000
/-! Readings by their heads: one lemma a combinator, so that a reading is walked by its own shape. -/
namespace Rd
open PySem PySem.Spec PyProof.Rows L2
variable {X : Cx} {D : Ends} {σ : L2.St} {H : Hp} {K : PySem.W.Frag}
/-- a new object is laid -/
def NewQ (o : HO) (Q : VK) (H : Hp) : Prop := ∀ p, H p = none → Q (.ref p) (upd H p o)
theorem new {o : HO} {Q : VK} (h : ∀ (p : Addr) (G : Hp), H p = none → G p = some o → Same H G → Q (.ref p) G) : NewQ o Q H :=
  fun p hp => h p _ hp upd_same fun b u e => by rw [upd_ne (ne_of_none e hp)]; exact e
theorem seq {t u : TS} (h : t { D with nx := u D } σ H) : tSeq t u D σ H := h
theorem cut {t u : TS} (Mid : L2.St → Hp → Prop) (h : t { D with nx := Mid } σ H) (h2 : ∀ σ' H', Mid σ' H' → u D σ' H') : C8.tCut t u D σ H := ⟨Mid, h, h2⟩
theorem nxt (h : D.nx σ H) : tNext D σ H := h
theorem asg {te : TE} {g : TG} (h : te σ H fun x H1 => g x σ H1 D.nx) : tAsg te g D σ H := h
theorem name {i : Nat} {v : V} {Q : L2.St → Hp → Prop} (h : Q (σ.set i (some v)) H) : gName i v σ H Q := h
theorem ret {te : TE} (h : te σ H D.rt) : tRet te D σ H := h
theorem retN (h : D.rt .non H) : tRetN D σ H := h
theorem drop {te : TE} (h : te σ H fun _ H1 => D.nx σ H1) : tDrop te D σ H := h
theorem ifS {c : TT} {t u : TS} (h : c σ H fun b H1 => if b = true then t D σ H1 else u D σ H1) : tIfS c t u D σ H := h
theorem brk (h : D.bk σ H) : tBreak D σ H := h
theorem cont (h : D.ct σ H) : tCont D σ H := h
theorem var {i : Nat} {v : V} {Q : VK} (e : σ[i]? = some (some v)) (h : Q v H) : tVar i σ H Q := ⟨v, e, h⟩
theorem con {v : V} {Q : VK} (h : Q v H) : tC v σ H Q := h
theorem op {r : R2} {ta tb : TE} {Q : VK} (h : ta σ H fun x H1 => tb σ H1 fun y H2 => r x y H2 Q) : tOp r ta tb σ H Q := h
theorem un {r : V → Hp → VK → Prop} {ta : TE} {Q : VK} (h : ta σ H fun x H1 => r x H1 Q) : tUn r ta σ H Q := h
theorem test {t : TE} {Q : Bool → Hp → Prop} (h : t σ H fun x H' => ∃ k, x = .bl k ∧ Q k H') : tTest t σ H Q := h
theorem tstB {t : TE} {Q : Bool → Hp → Prop} (h : t σ H fun x H' => ∃ k, x = .bl k ∧ Q k H') : tB t σ H Q := h
theorem bl {k : Bool} {Q : Bool → Hp → Prop} (h : Q k H) : ∃ k', V.bl k = .bl k' ∧ Q k' H := ⟨k, rfl, h⟩
theorem and {t u : TT} {Q : Bool → Hp → Prop} (h : t σ H fun c H1 => if c = true then u σ H1 Q else Q false H1) : tAnd t u σ H Q := h
theorem or {t u : TT} {Q : Bool → Hp → Prop} (h : t σ H fun c H1 => if c = true then Q true H1 else u σ H1 Q) : tOr t u σ H Q := h
theorem not {t : TT} {Q : Bool → Hp → Prop} (h : t σ H fun c H1 => Q (!c) H1) : tNot t σ H Q := h
theorem andV {ta tb : TE} {Q : VK} (h : ta σ H fun x H1 => ∃ c, x = .bl c ∧ if c = true then tb σ H1 Q else Q (.bl false) H1) : tAndV ta tb σ H Q := h
theorem orV {ta tb : TE} {Q : VK} (h : ta σ H fun x H1 => ∃ c, x = .bl c ∧ if c = true then Q (.bl true) H1 else tb σ H1 Q) : tOrV ta tb σ H Q := h
theorem notV {ta : TE} {Q : VK} (h : ta σ H fun x H1 => ∃ c, x = .bl c ∧ Q (.bl (!c)) H1) : tNotV ta σ H Q := h
theorem ifE {t : TT} {ta tb : TE} {Q : VK} (h : t σ H fun c H1 => if c = true then ta σ H1 Q else tb σ H1 Q) : tIf t ta tb σ H Q := h
theorem nil {Q : List V → Hp → Prop} (h : Q [] H) : tNil σ H Q := h
theorem cons {ta : TE} {tr : TA} {Q : List V → Hp → Prop} (h : ta σ H fun x H1 => tr σ H1 fun xs H2 => Q (x :: xs) H2) : tCons ta tr σ H Q := h
theorem tup {t : TA} {Q : VK} (h : t σ H fun xs H1 => xs.length ≤ sizeLine ∧ NewQ (.tup xs) Q H1) : tTup t σ H Q := h
theorem lst {t : TA} {Q : VK} (h : t σ H fun xs H1 => xs.length ≤ sizeLine ∧ NewQ (.lst xs) Q H1) : tLst t σ H Q := h
theorem cb {r : List V → Hp → VK → Prop} {t : TA} {Q : VK} (h : t σ H fun vs H1 => r vs H1 Q) : tCB r t σ H Q := h
theorem call {sp : Sp} {dvs : List V} {E : XK} {t : TA} {Q : VK} (h : t σ H fun vs H1 => sp (vs ++ dvs) H1 Q E) : tCall sp dvs E t σ H Q := h
theorem chain {r r' : R2} {ta tb tc : TE} {Q : VK} (h : ta σ H fun x H1 => tb σ H1 fun y H2 => r x y H2 fun z H3 => ∃ k, z = .bl k ∧ (if k = true then tc σ H3 fun w' H4 => r' y w' H4 Q else Q (.bl false) H3)) : tChain r r' ta tb tc σ H Q := h
theorem blE {k : Bool} {P : Bool → Prop} (h : P k) : ∃ k', V.bl k = .bl k' ∧ P k' := ⟨k, rfl, h⟩
theorem i0 {g : Int → Int → V} {i j : Int} {Q : VK} (h : Q (g i j) H) : rI0 g (.int i) (.int j) H Q := ⟨i, j, rfl, rfl, h⟩
theorem iC {C : Int → Int → Prop} {g : Int → Int → V} {i j : Int} {Q : VK} (c : C i j) (h : Q (g i j) H) : rI C g (.int i) (.int j) H Q := ⟨i, j, rfl, rfl, c, h⟩
theorem u1 {g : Int → V} {i : Int} {Q : VK} (h : Q (g i) H) : rU g (.int i) H Q := ⟨i, rfl, h⟩
theorem eqI {i j : Int} {Q : VK} (h : Q (.bl (decide (i = j))) H) : rEq (.int i) (.int j) H Q := ⟨rfl, by rw [show decide (V.int i = V.int j) = decide (i = j) by simp]; exact h⟩
theorem neI {i j : Int} {Q : VK} (h : Q (.bl (!decide (i = j))) H) : rNe (.int i) (.int j) H Q := ⟨rfl, by rw [show decide (V.int i = V.int j) = decide (i = j) by simp]; exact h⟩
theorem eqB {i j : Bool} {Q : VK} (h : Q (.bl (i == j)) H) : rEq (.bl i) (.bl j) H Q := ⟨rfl, by rw [dec_bl]; exact h⟩
theorem neB {i j : Bool} {Q : VK} (h : Q (.bl (i != j)) H) : rNe (.bl i) (.bl j) H Q := ⟨rfl, by rw [dec_bl]; exact h⟩
theorem eqS {i j : Str} {Q : VK} (h : Q (.bl (decide (i = j))) H) : rEq (.str i) (.str j) H Q := ⟨rfl, by rw [show decide (V.str i = V.str j) = decide (i = j) by simp]; exact h⟩
theorem neS {i j : Str} {Q : VK} (h : Q (.bl (!decide (i = j))) H) : rNe (.str i) (.str j) H Q := ⟨rfl, by rw [show decide (V.str i = V.str j) = decide (i = j) by simp]; exact h⟩
theorem iteb {c A B : Prop} [Decidable c] (h : if c then A else B) : if decide c = true then A else B := by
  by_cases q : c
  · rw [if_pos q] at h; rw [if_pos (decide_eq_true q)]; exact h
  · rw [if_neg q] at h; rw [if_neg (by simpa using q)]; exact h
theorem iten {c A B : Prop} [Decidable c] (h : if c then B else A) : if (!decide c) = true then A else B := by
  by_cases q : c
  · rw [if_pos q] at h; rw [if_neg (by simpa using q)]; exact h
  · rw [if_neg q] at h; rw [if_pos (by simpa using q)]; exact h
theorem itbn {b : Bool} {A B : Prop} (h : if b = true then B else A) : if (!b) = true then A else B := by
  cases b with
  | true => rw [if_neg (by decide)]; rw [if_pos rfl] at h; exact h
  | false => rw [if_pos (by rfl : (!false) = true)]; rw [if_neg (by decide)] at h; exact h
theorem a1 {a : Int} {P : Int → Prop} (h : P a) : ∃ i, [V.int a] = [V.int i] ∧ P i := ⟨a, rfl, h⟩
theorem a2 {a b : Int} {P : Int → Int → Prop} (h : P a b) : ∃ i j, [V.int a, V.int b] = [V.int i, V.int j] ∧ P i j := ⟨a, b, rfl, h⟩
theorem v2 {a b : V} {P : V → V → Prop} (h : P a b) : ∃ i j, [a, b] = [i, j] ∧ P i j := ⟨a, b, rfl, h⟩
theorem int1 {a : Int} {P : Int → Prop} {R : Prop} (h : P a) : (∃ i, [V.int a] = [V.int i] ∧ P i) ∨ R := .inl ⟨a, rfl, h⟩
theorem par {i j : Nat} {ta : TA} (h : ta σ H fun vs H1 => ∃ v w, vs = [v, w] ∧ D.nx ((σ.set i (some v)).set j (some w)) H1) : tPar i j ta D σ H := h
theorem sub {to ti : TE} {t : TSet} {v : V} {Q : L2.St → Hp → Prop} (h : to σ H fun o H1 => ti σ H1 fun i H2 => t o i v H2 fun H3 => Q σ H3) : gSub to ti t v σ H Q := h
theorem forS {wi : TI} {g : TG} {tb : TS} (h : wi σ H fun J H1 => ∃ W : Nat → Nat → L2.St → Hp → Prop, (∃ m, W 0 m σ H1) ∧ ∀ i m σ H, W i m σ H →
  (J.stop i H ∧ D.nx σ H) ∨ (J.go i H ∧ ∃ N : L2.St → Hp → Prop, (∀ σ' H', N σ' H' → ∃ m', m' < m ∧ W (i + 1) m' σ' H') ∧ ∀ x H', J.yld i H x H' → g x σ H' fun σ2 H2 => tb { D with nx := N, ct := N, bk := D.nx } σ2 H2)) : tFor wi g tb D σ H := h
theorem iter {tl : TE} {R : It → Hp → Prop} (h : tl σ H fun x H1 => ∃ a, x = .ref a ∧ (∃ xs, SqL K H1 a xs) ∧ R (Itl K a) H1) : iList K tl σ H R := h
theorem iterT {tl : TE} {R : It → Hp → Prop} (h : tl σ H fun x H1 => ∃ a, x = .ref a ∧ (∃ xs, SqT K H1 a xs) ∧ R (Itt K a) H1) : iTup K tl σ H R := h
theorem rng1 {ta : TA} {R : It → Hp → Prop} (h : ta σ H fun vs H1 => ∃ j : Int, vs = [.int j] ∧ -(2 ^ 62) ≤ j ∧ j < 2 ^ 62 ∧ R (Itr 0 j.toNat) H1) : iRng1 ta σ H R := h
theorem refE {a : Addr} {P : Addr → Prop} (h : P a) : ∃ b, V.ref a = .ref b ∧ P b := ⟨a, rfl, h⟩
theorem aug {i : Nat} {te : TE} {ti : TIp} {x : V} (e : σ[i]? = some (some x)) (h : te σ H fun y H1 => ti x y H1 fun z H2 => D.nx (σ.set i (some z)) H2) : tAug i te ti D σ H := ⟨x, e, h⟩
theorem ipi {f : Int → Int → Int} {i j : Int} {Q : VK} (h : Q (.int (f i j)) H) : ipI f (.int i) (.int j) H Q := ⟨i, j, rfl, rfl, h⟩
theorem whl {c : TT} {tb : TS} (W : Nat → L2.St → Hp → Prop) (h0 : ∃ m, W m σ H) (hs : ∀ m σ H, W m σ H → c σ H fun b H1 => if b = true then ∃ N : L2.St → Hp → Prop, (∀ σ' H', N σ' H' → ∃ m', m' < m ∧ W m' σ' H') ∧ tb { D with nx := N, ct := N, bk := D.nx } σ H1 else D.nx σ H1) : tWhile c tb D σ H := ⟨W, h0, hs⟩
theorem whN {m : Nat} {W : Nat → L2.St → Hp → Prop} {P : (L2.St → Hp → Prop) → Prop} (h : P (fun σ' H' => ∃ m', m' < m ∧ W m' σ' H')) : ∃ N, (∀ σ' H', N σ' H' → ∃ m', m' < m ∧ W m' σ' H') ∧ P N := ⟨_, fun _ _ h => h, h⟩
/-- an item of a list at a place -/
theorem ixL {p : Addr} {xs : List V} {i : Int} {v : V} {Q : VK} (hp : SqL K H p xs) (e : atI xs i = some v) (h : Q v H) : rIxL K (.ref p) (.int i) H Q := ⟨p, xs, i, v, rfl, rfl, hp, e, h⟩
theorem ixT {p : Addr} {xs : List V} {i : Int} {v : V} {Q : VK} (hp : SqT K H p xs) (e : atI xs i = some v) (h : Q v H) : rIxT K (.ref p) (.int i) H Q := ⟨p, xs, i, v, rfl, rfl, hp, e, h⟩
theorem setL {p : Addr} {xs : List V} {k : Int} {j : Nat} {v : V} {Q : Hp → Prop} (hp : H p = some (.lst xs)) (e : ixN xs.length k = some j) (h : Q (upd H p (.lst (xs.set j v)))) : rSetL (.ref p) (.int k) v H Q := ⟨p, xs, k, j, rfl, rfl, hp, e, h⟩
/-- a store into a list: behind it a heap G of which this is known -/
theorem setG {p : Addr} {xs ys : List V} {k : Int} {j : Nat} {v : V} {Q : Hp → Prop} (hp : H p = some (.lst xs)) (e : ixN xs.length k = some j) (hy : xs.set j v = ys) (h : ∀ G : Hp, G p = some (.lst ys) → (∀ b, b ≠ p → G b = H b) → Q G) : rSetL (.ref p) (.int k) v H Q :=
  ⟨p, xs, k, j, rfl, rfl, hp, e, hy ▸ h _ upd_same fun b hb => upd_ne hb⟩
/-! ### calls of built-ins and methods, by name -/
def nLen (K : PySem.W.Frag) : List V → Hp → VK → Prop := fun xs H Q => ∃ p ys, xs = [.ref p] ∧ (SqL K H p ys ∨ SqT K H p ys) ∧ Q (.int ys.length) H
theorem c_len : CallR X (.builtin "len") (nLen X.K) := call_len_seq
theorem len {p : Addr} {ys : List V} {Q : VK} (hp : SqL K H p ys ∨ SqT K H p ys) (h : Q (.int ys.length) H) : nLen K [.ref p] H Q := ⟨p, ys, rfl, hp, h⟩
def nLenS : List V → Hp → VK → Prop := fun xs H Q => ∃ z : Str, xs = [.str z] ∧ z.length ≤ sizeLine ∧ Q (.int z.length) H
theorem c_lenS : CallR X (.builtin "len") nLenS := call_len_str
theorem lenStr {z : Str} {Q : VK} (hz : z.length ≤ sizeLine) (h : Q (.int z.length) H) : nLenS [.str z] H Q := ⟨z, rfl, hz, h⟩
def nListOf (K : PySem.W.Frag) : List V → Hp → VK → Prop := fun xs H Q => ∃ p ys, xs = [.ref p] ∧ (SqL K H p ys ∨ SqT K H p ys) ∧ NewQ (.lst ys) Q H
theorem c_listOf : CallR X (.type "list") (nListOf X.K) := call_list_of
theorem listOf {p : Addr} {ys : List V} {Q : VK} (hp : SqL K H p ys ∨ SqT K H p ys) (h : NewQ (.lst ys) Q H) : nListOf K [.ref p] H Q := ⟨p, ys, rfl, hp, h⟩
def nTupOf (K : PySem.W.Frag) : List V → Hp → VK → Prop := fun xs H Q => ∃ p ys, xs = [.ref p] ∧ ((SqL K H p ys ∧ NewQ (.tup ys) Q H) ∨ (SqT K H p ys ∧ Q (.ref p) H))
theorem c_tupOf : CallR X (.type "tuple") (nTupOf X.K) := call_tuple_of
theorem tupOf {p : Addr} {ys : List V} {Q : VK} (hp : SqL K H p ys) (h : NewQ (.tup ys) Q H) : nTupOf K [.ref p] H Q := ⟨p, ys, rfl, .inl ⟨hp, h⟩⟩
def nInt : List V → Hp → VK → Prop := fun xs H Q => (∃ i, xs = [.int i] ∧ Q (.int i) H) ∨ ∃ k, xs = [.bl k] ∧ Q (.int (if k then 1 else 0)) H
theorem c_int : CallR X (.type "int") nInt := call_int1
theorem int {i : Int} {Q : VK} (h : Q (.int i) H) : nInt [.int i] H Q := .inl ⟨i, rfl, h⟩
theorem intB {k : Bool} {Q : VK} (h : Q (.int (if k then 1 else 0)) H) : nInt [.bl k] H Q := .inr ⟨k, rfl, h⟩
def nAbs : List V → Hp → VK → Prop := fun xs H Q => ∃ i, xs = [.int i] ∧ Q (.int (if i < 0 then -i else i)) H
theorem c_abs : CallR X (.builtin "abs") nAbs := call_abs
theorem abs {i : Int} {Q : VK} (h : Q (.int (i.natAbs : Int)) H) : nAbs [.int i] H Q := ⟨i, rfl, by rw [show (if i < 0 then -i else i) = (i.natAbs : Int) by split <;> omega]; exact h⟩
def nMax2 : List V → Hp → VK → Prop := fun xs H Q => ∃ i j, xs = [.int i, .int j] ∧ Q (.int (if j > i then j else i)) H
theorem c_max2 (hc : X.calm = true) : CallR X (.builtin "max") nMax2 := call_max2 hc
theorem max2 {i j : Int} {Q : VK} (h : Q (.int (max i j)) H) : nMax2 [.int i, .int j] H Q := ⟨i, j, rfl, by rw [show (if j > i then j else i) = max i j by rw [Int.max_def]; split <;> split <;> omega]; exact h⟩
def nMin2 : List V → Hp → VK → Prop := fun xs H Q => ∃ i j, xs = [.int i, .int j] ∧ Q (.int (if j < i then j else i)) H
theorem c_min2 (hc : X.calm = true) : CallR X (.builtin "min") nMin2 := call_min2 hc
theorem min2 {i j : Int} {Q : VK} (h : Q (.int (min i j)) H) : nMin2 [.int i, .int j] H Q := ⟨i, j, rfl, by rw [show (if j < i then j else i) = min i j by rw [Int.min_def]; split <;> split <;> omega]; exact h⟩
theorem bm {T : String} {r : V → List V → Hp → VK → Prop} {to : TE} {t : TA} {Q : VK} (h : to σ H fun x H1 => tyV K T x H1 ∧ t σ H1 fun xs H2 => r x xs H2 Q) : tBM K T r to t σ H Q := h
theorem bm0 {T : String} {r : V → List V → Hp → VK → Prop} {to : TE} {Q : VK} (h : to σ H fun x H1 => tyV K T x H1 ∧ r x [] H1 Q) : tBM0 K T r to σ H Q := h
theorem tyL {a : Addr} {xs : List V} {R : Prop} (h : SqL K H a xs) (r : R) : tyV K "list" (.ref a) H ∧ R := ⟨.inl ⟨rfl, _, h⟩, r⟩
theorem app {l : Addr} {xs : List V} {y : V} {Q : VK} (hp : H l = some (.lst xs)) (hz : xs.length < sizeLine) (h : ∀ G : Hp, G l = some (.lst (xs ++ [y])) → (∀ b, b ≠ l → G b = H b) → Q .non G) : rAppend (.ref l) [y] H Q :=
  ⟨l, xs, y, rfl, rfl, hp, hz, h _ upd_same fun b hb => upd_ne hb⟩
theorem popAt {l : Addr} {xs : List V} {i : Int} {y : V} {Q : VK} (hp : H l = some (.lst xs)) (h0 : 0 ≤ i) (h1 : i < xs.length) (hz : xs.length < 2 ^ 63) (hy : xs[i.toNat]? = some y) (h : ∀ G : Hp, G l = some (.lst (xs.eraseIdx i.toNat)) → (∀ b, b ≠ l → G b = H b) → Q y G) : rPopAt (.ref l) [.int i] H Q :=
  ⟨l, xs, i, i.toNat, y, rfl, rfl, hp, by omega, by omega, by unfold seqIndex?; rw [if_pos (by simp; omega)] <;> simp <;> omega, hy, h _ upd_same fun b hb => upd_ne hb⟩
theorem sl {r : V → Option Int → Option Int → Hp → VK → Prop} {te : TE} {tl th : TO} {Q : VK} (h : te σ H fun x H1 => tl σ H1 fun l H2 => th σ H2 fun u H3 => r x l u H3 Q) : tSl r te tl th σ H Q := h
theorem slL {a : Addr} {xs : List V} {lo hi : Option Int} {Q : VK} (hp : SqL K H a xs) (h : NewQ (.lst (cutV xs lo hi)) Q H) : rSlL K (.ref a) lo hi H Q := ⟨a, xs, rfl, hp, h⟩
theorem slS {z : Str} {lo hi : Option Int} {Q : VK} (hz : z.length ≤ sizeLine) (h : Q (.str (cutS z lo hi)) H) : rSlS (.str z) lo hi H Q := ⟨z, rfl, hz, h⟩
theorem cat {l b : Addr} {xs zs : List V} {Q : VK} (h1 : H l = some (.lst xs)) (h2 : H b = some (.lst zs)) (hz : xs.length + zs.length ≤ sizeLine) (h : NewQ (.lst (xs ++ zs)) Q H) : rCat (.ref l) (.ref b) H Q := ⟨l, b, xs, zs, rfl, rfl, h1, h2, hz, h⟩
theorem rep {l : Addr} {xs : List V} {k : Int} {Q : VK} (h1 : H l = some (.lst xs)) (h0 : -(2 ^ 63) ≤ k) (hk : k < 2 ^ 63) (hz : xs.length * k.toNat ≤ sizeLine) (h : NewQ (.lst (List.replicate k.toNat xs).flatten) Q H) : rRep (.ref l) (.int k) H Q := ⟨l, k, xs, rfl, rfl, h1, h0, hk, hz, h⟩
theorem revL {te : TE} {Q : VK} (h : te σ H fun x H1 => ∃ a xs, x = .ref a ∧ SqL K H1 a xs ∧ NewQ (.lst xs.reverse) Q H1) : tRevL K te σ H Q := h
theorem refX {a : Addr} {xs : List V} {P : List V → Prop} (h : SqL K H a xs) (q : P xs) : ∃ b ys, V.ref a = .ref b ∧ SqL K H b ys ∧ P ys := ⟨a, xs, rfl, h, q⟩
theorem sum {a : Addr} {ns : List Int} {Q : VK} (hp : SqL K H a (ns.map V.int)) (h : Q (.int ns.sum) H) : rSum K [.ref a] H Q := ⟨a, ns, rfl, hp, h⟩
theorem all {a : Addr} {bs : List Bool} {Q : VK} (hp : SqL K H a (bs.map V.bl)) (h : Q (.bl (bs.all id)) H) : rAll K [.ref a] H Q := ⟨a, bs, rfl, hp, h⟩
theorem any {a : Addr} {bs : List Bool} {Q : VK} (hp : SqL K H a (bs.map V.bl)) (h : Q (.bl (bs.any id)) H) : rAny K [.ref a] H Q := ⟨a, bs, rfl, hp, h⟩
theorem sortedI {a : Addr} {ns : List Int} {Q : VK} (hp : SqL K H a (ns.map V.int)) (h : ∀ (ms : List Int) (p : Addr) (G : Hp), ms.Perm ns → ms.Pairwise (· ≤ ·) → G p = some (.lst (ms.map V.int)) → Same H G → H p = none → Q (.ref p) G) : rSortedI K [.ref a] H Q :=
  ⟨a, ns, rfl, hp, fun ms p h1 h2 h3 => h ms p _ h1 h2 upd_same (fun b u e => by rw [upd_ne (ne_of_none e h3)]; exact e) h3⟩
theorem inS {neg : Bool} {x : V} {p : Addr} {xs : List V} {Q : VK} (hp : SqL K H p xs ∨ SqT K H p xs) (h1 : flatV x = true) (h2 : xs.all flatV = true) (h : Q (.bl (if neg then !inV x xs else inV x xs)) H) : rIn K neg x (.ref p) H Q := ⟨p, xs, rfl, hp, h1, h2, h⟩
theorem part {te : TE} {Q : Option Int → Hp → Prop} (h : te σ H fun x H1 => ∃ i, x = .int i ∧ Q (some i) H1) : tPart te σ H Q := h
theorem noPart {Q : Option Int → Hp → Prop} (h : Q none H) : tNoPart σ H Q := h
theorem poS {te : TE} {Q : Option Int → Hp → Prop} {i : Int} (h : te σ H fun x H1 => ∃ i, x = .int i ∧ Q (some i) H1) : te σ H fun x H1 => ∃ i, x = .int i ∧ Q (some i) H1 := h
theorem tupT {a : Addr} {xs : List V} {n : Nat} {t : TGs} {Q : L2.St → Hp → Prop} (hp : SqT K H a xs) (hn : xs.length = n) (h : t xs σ H Q) : gTup K n t (.ref a) σ H Q := ⟨a, xs, rfl, hp, hn, h⟩
theorem gcons {t : TG} {u : TGs} {v : V} {r : List V} {Q : L2.St → Hp → Prop} (h : t v σ H fun σ' H' => u r σ' H' Q) : gCons t u (v :: r) σ H Q := ⟨v, r, rfl, h⟩
theorem gnil {Q : L2.St → Hp → Prop} (h : Q σ H) : gNil [] σ H Q := ⟨rfl, h⟩
theorem last2 {ms : List Int} (h : 2 ≤ ms.length) : ∃ s b a, ms = s ++ [b, a] := by
  rcases List.eq_nil_or_concat ms with e | ⟨t, a, e⟩
  · subst e; simp at h
  · rcases List.eq_nil_or_concat t with e2 | ⟨s, b, e2⟩
    · subst e2; subst e; simp at h
    · exact ⟨s, b, a, by rw [e, e2]; simp⟩
theorem cut_last2 (s : List Int) (b a : Int) : cutV ((s ++ [b, a]).map V.int) (some (-2)) none = [b, a].map V.int := by
  have e : HT.sIx ((s ++ [b, a]).map V.int).length 0 (some (-2)) = (s.map V.int).length := by
    unfold HT.sIx
    simp
    omega
  have e2 : HT.sIx ((s ++ [b, a]).map V.int).length ((s ++ [b, a]).map V.int).length none = ((s ++ [b, a]).map V.int).length := rfl
  unfold cutV
  rw [e, e2, List.map_append, List.drop_left, List.length_append]
  exact List.take_of_length_le (by simp)
theorem rep_map (k : Nat) (b : Bool) : (List.replicate k [V.bl b]).flatten = (List.replicate k b).map V.bl := by
  induction k with
  | zero => rfl
  | succ k ih => rw [List.replicate_succ, List.flatten_cons, ih, List.replicate_succ]; rfl
theorem map_set {α β : Type} (f : α → β) (l : List α) (i : Nat) (x : α) : (l.map f).set i (f x) = (l.set i x).map f := by rw [List.map_set]
theorem enx {a b c : L2.St → Hp → Prop} {r : VK} (h : a σ H) : (Ends.mk a r b c).nx σ H := h
theorem ebk {a b c : L2.St → Hp → Prop} {r : VK} (h : b σ H) : (Ends.mk a r b c).bk σ H := h
theorem ect {a b c : L2.St → Hp → Prop} {r : VK} (h : c σ H) : (Ends.mk a r b c).ct σ H := h
theorem ert {a b c : L2.St → Hp → Prop} {r : VK} {v : V} (h : r v H) : (Ends.mk a r b c).rt v H := h
theorem intE {i : Int} {P : Int → Prop} (h : P i) : ∃ j, V.int i = .int j ∧ P j := ⟨i, rfl, h⟩
theorem atI_of {α : Type} {xs : List α} {i : Int} {v : α} (h0 : 0 ≤ i) (e : xs[i.toNat]? = some v) : atI xs i = some v := by
  have h := atI_nat e
  rw [show ((i.toNat : Nat) : Int) = i by omega] at h
  exact h
theorem ixN_of {n : Nat} {i : Int} (h0 : 0 ≤ i) (h1 : i < n) : ixN n i = some i.toNat := by
  unfold ixN
  rw [if_pos h0, if_pos h1]
theorem map_int {ns : List Int} {i : Nat} (h : i < ns.length) : (ns.map V.int)[i]? = some (.int ns[i]) := by simp [h]
theorem map_get {ns : List Int} {i : Nat} {x : V} (h : (ns.map V.int)[i]? = some x) : ∃ n, ns[i]? = some n ∧ x = .int n := by
  rw [List.getElem?_map] at h
  cases e : ns[i]? with
  | none => rw [e] at h; cases h
  | some z => rw [e] at h; exact ⟨z, rfl, (Option.some.inj h).symm⟩
theorem take_snoc {α : Type} {l : List α} {i : Nat} {x : α} (h : l[i]? = some x) : l.take (i + 1) = l.take i ++ [x] := by
  rw [List.take_succ, h]
  rfl
theorem upd_at {a : Addr} {o : HO} {b : Addr} (h : b = a) : upd H a o b = some o := by subst h; exact upd_same
/-- all but what stands at a is kept -/
def But (a : Addr) (H H' : Hp) : Prop := ∀ b o, b ≠ a → H b = some o → H' b = some o
theorem But.refl (a : Addr) (H : Hp) : But a H H := fun _ _ _ e => e
theorem But.trans {a : Addr} {H H1 H2 : Hp} (x : But a H H1) (y : But a H1 H2) : But a H H2 := fun b o n e => y b o n (x b o n e)
theorem But.same {a : Addr} {H H1 H2 : Hp} (x : But a H H1) (y : Same H1 H2) : But a H H2 := fun b o n e => y b o (x b o n e)
theorem But.of {a : Addr} {H H1 : Hp} (y : Same H H1) : But a H H1 := fun b o _ e => y b o e
theorem But.free {a : Addr} {H H1 : Hp} (x : But a H H1) {l : Addr} (n : l ≠ a) (h : H1 l = none) : H l = none := by
  cases q : H l with
  | none => rfl
  | some o =>
    have := x l o n q
    rw [h] at this
    cases this
theorem But.upd {a : Addr} {H H1 : Hp} {o : HO} (x : But a H H1) : But a H (upd H1 a o) := fun b u n e => by rw [upd_ne n]; exact x b u n e
theorem same_upd {H : Hp} {p : Addr} {o : HO} (h : H p = none) : Same H (upd H p o) := fun b u e => by rw [upd_ne (ne_of_none e h)]; exact e
end Rd

/-! Further rules: enumerate and sorted of a tuple; one of two ways to walk. -/
namespace Ru
open PySem PyProof.Rows
open PySem.AutoSeq1 (wpAny_loadPart')
section
variable {prog : Program} {w : World} {A : Around} {E : Value → Shared → Prop} {s : Shared}
theorem nextOf_tup {it t : Addr} {i : Nat} {items : Array Value} {x : Value} {Q : Value → Shared → Prop} (hit : s.heap.IsTupleIter it t i) (ht : s.heap.IsTuple t items) (hx : items[i]? = some x)
    (hQ : ∀ h', h'.IsTupleIter it t (i + 1) → Heap.SameBut it s.heap h' → Q x { s with heap := h' }) : wpAny (model prog w) A (Builtin.SmallTypes.nextOf (.ref it)) Q E s := by
  obtain ⟨oi, hoi, hci, hdi⟩ := id hit
  obtain ⟨ot, hot, _, nt, hdt⟩ := ht
  unfold Builtin.SmallTypes.nextOf
  refine wpAny_bind (wpAny_callSpecial?_slot (name := Str.ofString "__next__") hit.typeIs F.slot_tuple_iterator_next (wpAny_call_entry F.slot_tuple_iterator_next hit.typeIs F.entry_tuple_iterator_next ?_ (F.args_tuple_iterator_next_1 _)))
  show wpAny _ _ (field (.ref it) 0 >>= _) _ _ s
  refine wpAny_bind (wpAny_field hoi hdi (x := .ref t) rfl ?_)
  show wpAny _ _ (if (Value.ref t == Value.none) = true then _ else _) _ _ s
  rw [if_neg (show ¬ ((Value.ref t == Value.none) = true) from Bool.false_ne_true)]
  show wpAny _ _ (field (.ref it) 1 >>= _) _ _ s
  refine wpAny_bind (wpAny_field hoi hdi (x := .int i 0) rfl ?_)
  show wpAny _ _ (seqItems? (.ref t) >>= _) _ _ s
  refine wpAny_bind (wpAny_seqItems hot hdt ?_)
  simp only [Int.toNat_natCast, hx]
  refine wpAny_bind (wpAny_setField hoi hdi (by simp) (wpAny_pure ⟨x, rfl, wpAny_pure (hQ _ ?_ (Heap.SameBut.update ..))⟩))
  exact ⟨_, Heap.get?_update_self _ hoi (Obj.isFreed_of_fields (Obj.data_mapFields hdi _)), (Obj.cls_mapFields ..).trans hci, by rw [Obj.data_mapFields hdi]; simp [rawInt]⟩
theorem nextOf_tup_end {it t : Addr} {i : Nat} {items : Array Value} {Q : Value → Shared → Prop} (hh : A.handled = none) (hit : s.heap.IsTupleIter it t i) (ht : s.heap.IsTuple t items) (hx : items[i]? = none)
    (hE : ∀ h' e, Heap.ExtBut it s.heap h' → (∃ o, h'.get? e = some o ∧ o.cls = .type "StopIteration") → E (.ref e) { s with heap := h' }) : wpAny (model prog w) A (Builtin.SmallTypes.nextOf (.ref it)) Q E s := by
  obtain ⟨oi, hoi, hci, hdi⟩ := id hit
  obtain ⟨ot, hot, _, nt, hdt⟩ := ht
  unfold Builtin.SmallTypes.nextOf
  refine wpAny_bind (wpAny_callSpecial?_slot (name := Str.ofString "__next__") hit.typeIs F.slot_tuple_iterator_next (wpAny_call_entry F.slot_tuple_iterator_next hit.typeIs F.entry_tuple_iterator_next ?_ (F.args_tuple_iterator_next_1 _)))
  show wpAny _ _ (field (.ref it) 0 >>= _) _ _ s
  refine wpAny_bind (wpAny_field hoi hdi (x := .ref t) rfl ?_)
  show wpAny _ _ (if (Value.ref t == Value.none) = true then _ else _) _ _ s
  rw [if_neg (show ¬ ((Value.ref t == Value.none) = true) from Bool.false_ne_true)]
  show wpAny _ _ (field (.ref it) 1 >>= _) _ _ s
  refine wpAny_bind (wpAny_field hoi hdi (x := .int i 0) rfl ?_)
  show wpAny _ _ (seqItems? (.ref t) >>= _) _ _ s
  refine wpAny_bind (wpAny_seqItems hot hdt ?_)
  simp only [Int.toNat_natCast, hx]
  refine wpAny_bind (wpAny_rule (wpAny_bind (wpAny_setField hoi hdi (by simp) ?_)))
  show wpAny _ _ (newExc (.type "StopIteration") [] >>= _) _ _ _
  refine wpAny_bind ?_
  simp only [newExc, newTuple]
  refine wpAny_bind (wpAny_newObj_type ?_ (by size_fits))
  refine wpAny_bind (m := firstArgMember _ _) (wpAny_of_eq (a := Value.none) (by first | rfl | (simp only [firstArgMember]; rfl)) ?_)
  refine wpAny_newObj_type ?_ (by size_fits)
  simp only [raiseNew]
  refine wpAny_bind (wpAny_handled ?_)
  first | rw [show A.in1.handled = none from hh] | rw [hh]
  refine wpAny_bind (wpAny_pure (wpAny_throw ?_))
  exact hE _ _ (((Heap.SameBut.update ..).extBut.push _).push _) ⟨_, Heap.get?_push_size _ rfl, rfl⟩
end
theorem draws_tup {prog : Program} {w : World} {A : Around} (hh : A.handled = none) (it t : Addr) (hne : t ≠ it) (items : Array Value) :
    Draws prog w A it [it, t] items.size (fun i v => items[i]? = some v) (fun i h => h.IsTupleIter it t i ∧ h.IsTuple t items) where
  live := fun _ _ st => let ⟨o, ho, _⟩ := st.1; ⟨o, ho⟩
  frame := fun _ _ _ st hk => ⟨let ⟨o, ho, r⟩ := st.1; ⟨o, hk it (by simp) o ho, r⟩, let ⟨o, ho, r⟩ := st.2; ⟨o, hk t (by simp) o ho, r⟩⟩
  item := fun i s Q E hi st hQ => by
    refine nextOf_tup st.1 st.2 (x := items[i]) (by simp [hi]) fun h' k1 k2 => ?_
    exact hQ _ h' s.toks (by simp [hi]) ⟨k1, st.2.extBut k2.extBut hne⟩ k2
  done := fun s Q E st hE => nextOf_tup_end hh st.1 st.2 (by simp) hE
theorem meets_enum_tup (l : Addr) (items : Array Value) (n : Nat) (dct : Option Addr) (sl : Array (Option Value)) :
    Meets (Builtin.«enumerate.__new__» ⟨[.type "enumerate", .ref l], []⟩) (fun _ R s => s.heap.get? l = some { cls := .type "tuple", dict := dct, data := .seq items n, slots := sl } ∧
      R (.ok (.ret (.ref (s.heap.push { cls := .type "tuple_iterator", data := .fields #[.ref l, .int 0 0] }).objs.size)))
        { s with heap := (s.heap.push { cls := .type "tuple_iterator", data := .fields #[.ref l, .int 0 0] }).push { cls := .type "enumerate", data := .fields #[.none, .bool false, .ref s.heap.objs.size, rawInt 0, .none, .none] } }) :=
  .of_wp fun prog w A R s h => by
    obtain ⟨hp, g, d, tk, os⟩ := s
    obtain ⟨hl, h⟩ := h
    have hsub := sub_enumerate
    have hL : Heap.IsTuple (Shared.heap ⟨hp, g, d, tk, os⟩) l items := ⟨_, hl, rfl, n, rfl⟩
    wp_walk using wpAny_loadPart' hl
    refine wpAny_stack_any fun st => wpAny_pure ?_
    split
    · rename_i c _ _ _ _ _
      cases (c == Value.type "enumerate")
      · wp_walk using wpAny_loadPart' hl, wpAny_pyIter_tuple hL
        exact ⟨_, rfl, h⟩
      · wp_walk using wpAny_loadPart' hl, wpAny_pyIter_tuple hL
        exact ⟨_, rfl, h⟩
    · wp_walk using wpAny_loadPart' hl, wpAny_pyIter_tuple hL
      exact ⟨_, rfl, h⟩
section
variable {prog : Program} {w : World} {A : Around} {E : Value → Shared → Prop} {s : Shared}
theorem call_enum_tup {l : Addr} {items : Array Value} {Q : Value → Shared → Prop} (hL : s.heap.IsTuple l items)
    (h : ∀ h', IsEnum h' (s.heap.objs.size + 1) s.heap.objs.size 0 .none → h'.IsTupleIter s.heap.objs.size l 0 → h'.objs.size = s.heap.objs.size + 2 → (∀ b o, s.heap.get? b = some o → h'.get? b = some o) → Q (.ref (s.heap.objs.size + 1)) { s with heap := h' }) :
    wpAny (model prog w) A (call (.type "enumerate") [.ref l]) Q E s := by
  obtain ⟨⟨c, dct, dt, sl⟩, hl, hc, n, hd⟩ := hL
  replace hc : c = .type "tuple" := hc
  replace hd : dt = .seq items n := hd
  subst hc hd
  refine callType_new F.called_enumerate (by decide) (F.typeCall_enumerate_1 _) (F.newCall_enumerate_1 _) (fun obj => F.args_object_init_2 obj _) F.entry_enumerate_new (meets_enum_tup l items n dct sl) ⟨hl, ?_⟩
  have hz : (s.heap.push { cls := .type "tuple_iterator", data := .fields #[.ref l, .int 0 0] }).objs.size = s.heap.objs.size + 1 := Heap.size_push ..
  show _ ∧ _
  rw [hz]
  have he : IsEnum ((s.heap.push { cls := .type "tuple_iterator", data := .fields #[.ref l, .int 0 0] }).push { cls := .type "enumerate", data := .fields #[.none, .bool false, .ref s.heap.objs.size, rawInt 0, .none, .none] }) (s.heap.objs.size + 1) s.heap.objs.size 0 .none := by
    have q := Heap.get?_push_size (s.heap.push { cls := .type "tuple_iterator", data := .fields #[.ref l, .int 0 0] }) (o := { cls := .type "enumerate", data := .fields #[.none, .bool false, .ref s.heap.objs.size, rawInt 0, .none, .none] }) rfl
    rw [hz] at q
    exact q
  exact ⟨⟨_, he, rfl⟩, h _ he ⟨_, Heap.get?_push_of_some _ (Heap.get?_push_size _ rfl), rfl, rfl⟩ (by rw [Heap.size_push, hz]) fun b o x => Heap.get?_push_of_some _ (Heap.get?_push_of_some _ x)⟩
/-- a tuple is collected into a new list -/
theorem collect_tup {l : Addr} {vs : List Value} {Q : List Value → Shared → Prop} (hl : s.heap.IsTuple l vs.toArray) (hsz : vs.length ≤ sizeLine)
    (h : Q vs { s with heap := (s.heap.push (seqObj "list" #[] 0)).update s.heap.objs.size (Obj.mapSeq (· ++ vs.toArray)) }) : wpAny (model prog w) A (collect (.ref l)) Q E s := by
  obtain ⟨o, ho, hc, n, hd⟩ := id hl
  unfold collect
  refine wpAny_bind (wpAny_runValue (codeAny_builtin entry_proto_collect' ?_))
  show wpAny _ _ (do again (.builtin "list.__iadd__" ⟨[← newList [], .ref l], []⟩)) _ _ s
  refine wpAny_bind (wpAny_newList (wpAny_pure ⟨Code.quiet_builtin _ (by decide +kernel), codeAny_builtin entry_list_iadd' ?_⟩))
  show wpAny _ _ (Builtin.List.listExtendWith (.ref s.heap.objs.size) (.ref l) (.ref s.heap.objs.size)) _ _ { s with heap := s.heap.push (seqObj "list" #[] 0) }
  unfold Builtin.List.listExtendWith
  have ho' : (s.heap.push (seqObj "list" #[] 0)).get? l = some o := Heap.get?_push_of_some _ ho
  refine wpAny_bind (wpAny_typeOf (T := "tuple") ⟨o, ho', hc⟩ ?_)
  have ht : (Value.type "tuple" == Value.type "tuple") = true := by rfl
  rw [if_pos (by rw [ht]; simp)]
  refine wpAny_bind (listItems_at ho' hd ?_)
  refine wpAny_bind (listItems_at (xs := #[]) (n := 0) (Heap.get?_push_size _ rfl) rfl ?_)
  rw [if_neg (by simp)]
  refine wpAny_bind (listUpdate_at (xs := #[]) (n := 0) (Heap.get?_push_size _ rfl) rfl ?_ (Nat.zero_le _) (by show (#[] ++ vs.toArray).size ≤ sizeLine + 1; simp only [Array.size_append, List.size_toArray, List.length_nil]; omega))
  refine wpAny_pure ?_
  show wpAny (model prog w) A (do
      let o ← load s.heap.objs.size
      match o.data with
      | .seq xs _ => pure xs.toList
      | _ => unsupported "internal:collect") Q E { s with heap := (s.heap.push (seqObj "list" #[] 0)).update s.heap.objs.size (Obj.mapSeq (· ++ vs.toArray)) }
  refine wpAny_bind (wpAny_load (get?_update_seq (Heap.get?_push_size _ rfl) _) ?_)
  show wpAny _ _ (pure ((#[] : Array Value) ++ vs.toArray).toList) Q E _
  rw [show ((#[] : Array Value) ++ vs.toArray).toList = vs by simp]
  exact wpAny_pure h
end

section
variable {prog : Program} {w : World} {A : Around} {E : Value → Shared → Prop} {s : Shared}
open SrtO in
/-- sorted of a tuple: the new list stands at size + 1 -/
theorem sorted_tup {l : Addr} {vs : List Value} {ltv : Value → Value → Bool} {Q : Value → Shared → Prop} (O : Swo ltv) (hl : s.heap.IsTuple l vs.toArray) (hz : vs.length ≤ sizeLine)
    (hS : 2 ≤ vs.length → ∀ (g : Heap) (a : Addr), g.get? a = some (seqObj "list" vs.toArray 0) → (∀ b o, s.heap.get? b = some o → b ≠ a ∧ g.get? b = some o) → SortableO prog w A.in1.in1 { s with heap := g } a vs ltv)
    (h : ∀ out : List Value, Srtd ltv out → Stb ltv out vs → Q (.ref (s.heap.objs.size + 1)) { s with heap := sortedAll s.heap vs out.toArray }) : wpAny (model prog w) A (call (.builtin "sorted") [.ref l]) Q E s := by
  refine Calls.call_function_entry kind_sorted plain_sorted entry_sorted (args_sorted1 _) ?_
  unfold Builtin.«sorted»
  refine wpAny_bind (m := checkCount "sorted" 1 1 _) (wpAny_pure ?_)
  refine wpAny_bind (collect_tup hl hz ?_)
  refine wpAny_bind (wpAny_newList ?_ hz)
  have e1 : ((s.heap.push (seqObj "list" #[] 0)).update s.heap.objs.size (Obj.mapSeq (· ++ vs.toArray))).objs.size = s.heap.objs.size + 1 := by rw [Heap.size_update, size_push']
  have e2 : (((s.heap.push (seqObj "list" #[] 0)).update s.heap.objs.size (Obj.mapSeq (· ++ vs.toArray))).push (seqObj "list" vs.toArray 0)).get? (s.heap.objs.size + 1) = some (seqObj "list" vs.toArray 0) := by
    rw [← e1]
    exact Heap.get?_push_size _ rfl
  have e3 : ∀ b o, s.heap.get? b = some o → b ≠ s.heap.objs.size + 1 ∧ (((s.heap.push (seqObj "list" #[] 0)).update s.heap.objs.size (Obj.mapSeq (· ++ vs.toArray))).push (seqObj "list" vs.toArray 0)).get? b = some o := fun b o q => by
    have lt : b < s.heap.objs.size := Heap.lt_size q
    refine ⟨Nat.ne_of_lt (Nat.lt_succ_of_lt lt), Heap.get?_push_of_some _ ?_⟩
    rw [Heap.get?_update_ne _ _ _ _ (Nat.ne_of_lt lt)]
    exact Heap.get?_push_of_some _ q
  show wpAny _ _ _ _ _ { s with heap := ((s.heap.push (seqObj "list" #[] 0)).update s.heap.objs.size (Obj.mapSeq (· ++ vs.toArray))).push (seqObj "list" vs.toArray 0) }
  rw [e1]
  refine wpAny_bind (wpAny_holding (wpAny_call_entry slot_list_sort ⟨_, e2, rfl⟩ entry_list_sort (list_sort_ord O e2 hz (fun h2 => hS h2 _ _ e2 e3) fun out hs hb => ⟨_, rfl, ?_⟩) (args_list_sort _)))
  exact wpAny_pure ⟨_, rfl, h out hs hb⟩
end
end Ru
namespace Ru
open PySem PySem.Spec PyProof.Rows L2
/-- one of two ways to walk -/
theorem pi_or {X : Cx} {tg e : Expr} {t u : TI} (a : PI X tg e t) (b : PI X tg e u) : PI X tg e (fun σ H R => t σ H R ∨ u σ H R) := ⟨fun pins s σ H R I h => h.elim (a.run pins s σ H R I) (b.run pins s σ H R I)⟩
theorem callR_or {X : Cx} {f : Value} {r r' : List V → Hp → VK → Prop} (a : CallR X f r) (b : CallR X f r') : CallR X f (fun vs H Q => r vs H Q ∨ r' vs H Q) := fun pins s σ H vs us Q I rv h => h.elim (a pins s σ H vs us Q I rv) (b pins s σ H vs us Q I rv)
/-- sorted(t), t a tuple of ints -/
def rSortedTup (K : PySem.W.Frag) : List V → Hp → VK → Prop := fun vs H Q => ∃ (a : Addr) (ns : List Int), vs = [V.ref a] ∧ SqT K H a (ns.map V.int) ∧
  ∀ (ms : List Int) (p : Addr), ms.Perm ns → ms.Pairwise (· ≤ ·) → H p = none → Q (.ref p) (upd H p (.lst (ms.map V.int)))
theorem cr_sortedTup {X : Cx} : CallR X (.builtin "sorted") (rSortedTup X.K) := by
  intro pins s σ H vs us Q I r h
  obtain ⟨a, ns, rfl, hs, q⟩ := h
  obtain ⟨its, rv, hl, hz⟩ := I.tuple hs
  rw [Vals.ref1 r]
  have hi := rv.ints
  refine sorted_tup SrtO.swo_int (show s.heap.IsTuple a its.toArray from hl) (by rw [← rv.length]; exact hz) (fun h2 g b _ _ => SrtO.ints_sortable hi h2) fun out h1 h2 => ?_
  obtain ⟨k1, k2, k3⟩ := SrtO.ints_out hi h1 h2
  obtain ⟨ep, he⟩ := PyProof.Rows.sortedAll_at s.heap its out.toArray
  have ln : ((out.map SrtO.iv).map V.int).length ≤ sizeLine := by
    rw [List.length_map, k2.length_eq]
    rw [List.length_map] at hz
    exact hz
  exact ⟨.ref _, upd H (s.heap.objs.size + 1) (.lst ((out.map SrtO.iv).map V.int)), I.laid (t' := s.toks) (fun _ _ => PyProof.Rows.sortedAll_old) (Nat.le_succ _) ⟨ln, out, ep, vals_of_ints k1, he⟩, rfl, q _ _ k2 k3 (I.hok.fresh (Nat.le_succ _))⟩
/-- enumerate of a tuple: each item in a new pair -/
def IteT (K : PySem.W.Frag) (a : Addr) : It :=
  ⟨fun i H => ∃ (xs : List V) (x : V), SqT K H a xs ∧ xs[i]? = some x, fun i H v H' => ∃ T x, v = .ref T ∧ H T = none ∧ H' = upd H T (.tup [.int (i : Nat), x]) ∧ ∀ xs, SqT K H a xs → xs[i]? = some x, fun i H => ∃ xs : List V, SqT K H a xs ∧ xs.length = i⟩
theorem turn_enumT {P : Program} {w : World} {K : PySem.W.Frag} {elts : List Expr} {kk : Nat} {tpos : Pos} (a e it : Addr) :
    Turn P w K (.Tuple elts kk tpos) (IteT K a) [e, it] e (fun i h => (∃ old, IsEnum h e it ((i : Nat) : Int) old) ∧ h.IsTupleIter it a i ∧ e ≠ it) where
  mem := by simp
  obj := fun i h st b hb => by
    obtain ⟨⟨old, he⟩, ⟨o, ho, hc, hd⟩, _⟩ := st
    have z : b = e ∨ b = it := by simpa using hb
    rcases z with z | z
    · rw [z]; exact ⟨_, he, fun v q => nomatch q⟩
    · rw [z]; exact ⟨o, ho, fun v q => by rw [hd] at q; cases q⟩
  keep := fun i h h' st k => let ⟨⟨old, he⟩, ⟨o, ho, r⟩, hne⟩ := st; ⟨⟨old, k e (by simp) _ he⟩, ⟨o, k it (by simp) o ho, r⟩, hne⟩
  item := by
    intro X hP hw hK hc i pins s σ H E I hf st hg
    subst hP hw hK
    obtain ⟨⟨old, he⟩, hit, hne⟩ := st
    obtain ⟨xs, x, hq, hx⟩ := hg
    obtain ⟨its, rv, p, hz⟩ := I.tuple hq
    obtain ⟨u, hu, ru⟩ := rv.get hx
    have hel : e < s.heap.objs.size := Heap.lt_size he
    have hil : it < s.heap.objs.size := by obtain ⟨_, q, _⟩ := hit; exact Heap.lt_size q
    have hat : a ≠ it := fun z => by
      obtain ⟨o, q1, q2, _⟩ := hit
      obtain ⟨o', q3, q4, _⟩ := (show s.heap.IsTuple a its.toArray from p)
      rw [← z, q3] at q1
      cases q1
      rw [q4] at q2
      exact absurd (Value.type.inj q2) (by decide)
    have hea : e ≠ a := fun z => by
      obtain ⟨o', q3, q4, _⟩ := (show s.heap.IsTuple a its.toArray from p)
      rw [← z, he] at q3
      cases q3
      exact absurd (Value.type.inj q4) (by decide)
    have hlt : i < its.toArray.size := by
      have := (List.getElem?_eq_some_iff.mp hu).1
      simpa using this
    refine wpAny_pyNext_enum_itemD (draws_tup (prog := X.prog) (w := X.w) (A := X.A.in1) (I.ok.hd hc) it a hat its.toArray) he ⟨hit, p⟩ hlt hne (by simp [hne, hea]) fun y h' tk hy ho st' hT hsz hk => ?_
    have hy' : y = u := by
      have z : its.toArray[i]? = some u := by simpa using hu
      rw [z] at hy
      exact (Option.some.inj hy).symm
    subst hy'
    refine ⟨_, rfl, wpAny_letOwnedTupleGo_enum (s := { s with heap := h', toks := tk + 1 }) ho fun h'' he' sb => ?_⟩
    have hT2 : h''.get? s.heap.objs.size = some { cls := .type "tuple", data := .seq #[.int i tk, y] } := (sb.2 _ (Nat.ne_of_gt hel)).trans hT
    have new : ObjOk X.prog X.w (upd H s.heap.objs.size (.tup [.int (i : Nat), x])) h'' s.heap.objs.size (.tup [.int (i : Nat), x]) :=
      ⟨by show 2 ≤ sizeLine; decide, [.int i tk, y], .cons ⟨_, rfl⟩ (.cons ru .nil), ⟨_, hT2, rfl, _, rfl⟩⟩
    have I1 : Inv X pins σ (upd H s.heap.objs.size (.tup [.int (i : Nat), x])) { s with heap := h'', toks := tk + 1 } :=
      I.turnedNew (ch := [e, it]) (fun b ob hb q => (sb.2 b (fun z => hb (by simp [z]))).trans (hk b ob (fun z => hb (by simp [z])) (fun z => hb (by simp [z])) q)) hf (Nat.le_refl _) new
    refine ⟨.ref s.heap.objs.size, _, I1, rfl, ⟨_, x, rfl, I.hok.fresh (Nat.le_refl _), rfl, fun ys hy => by rw [I.tuple_inj hy hq]; exact hx⟩, ⟨⟨y, ?_⟩, ?_, hne⟩, fun b hb => ?_⟩
    · have e1 : ((i + 1 : Nat) : Int) = (i : Int) + 1 := by omega
      rw [e1]; exact he'
    · obtain ⟨o, q, r⟩ := st'.1
      exact ⟨o, (sb.2 it (Ne.symm hne)).trans q, r⟩
    · have hb' : b < s.heap.objs.size := by
        have z : b = e ∨ b = it := by simpa using hb
        rcases z with z | z
        · rw [z]; exact hel
        · rw [z]; exact hil
      rw [upd_ne (Nat.ne_of_lt hb')]
      exact (hf b hb).1
  done := by
    intro X hP hw hK hc i pins s σ H E I hf st hg
    subst hP hw hK
    obtain ⟨⟨old, he⟩, hit, hne⟩ := st
    obtain ⟨xs, hq, hx⟩ := hg
    obtain ⟨its, rv, p, hz⟩ := I.tuple hq
    obtain ⟨f0, f1, f2, f3, f4, f5⟩ := hf it (by simp)
    have hl := rv.length
    have hat : a ≠ it := fun z => by
      obtain ⟨o, q1, q2, _⟩ := hit
      obtain ⟨o', q3, q4, _⟩ := (show s.heap.IsTuple a its.toArray from p)
      rw [← z, q3] at q1
      cases q1
      rw [q4] at q2
      exact absurd (Value.type.inj q2) (by decide)
    have hn : i = its.toArray.size := by simp; omega
    refine wpAny_pyNext_enum_endD (draws_tup (prog := X.prog) (w := X.w) (A := X.A.in1) (I.ok.hd hc) it a hat its.toArray) he (by rw [hn] at hit; exact ⟨hit, p⟩) fun h' eb => ⟨rfl, ?_⟩
    obtain ⟨g0, g1, g2, g3, g4, g5⟩ := hf e (by simp)
    obtain ⟨f0, f1, f2, f3, f4, f5⟩ := hf it (by simp)
    exact I.turned (t' := s.toks) (fun b o hb q => eb b o hb q) f0 f1 f3 f4 f5
  self := fun A i s Q E st h => let ⟨⟨_, he⟩, _⟩ := st; wpAny_pyIter_enum he h
def iEnumT (K : PySem.W.Frag) (ta : TA) : TI := fun σ H R => ta σ H fun vs H1 => ∃ a xs, vs = [.ref a] ∧ SqT K H1 a xs ∧ R (IteT K a) H1
theorem pi_enumT {X : Cx} {e : Expr} {ta : TA} {p pos tpos : Pos} {elts : List Expr} {kk : Nat} (hg : Gl X "enumerate") (hm : X.mg "enumerate" = none) (ha : PA X [e] ta) (hs : starEach [e] X.env = [(false, eval e X.env)] := by rfl) :
    PI X (.Tuple elts kk tpos) (.Call (.Name "enumerate" p) [e] [] pos) (iEnumT X.K ta) := by
  refine ⟨fun pins s σ H R I h => ?_⟩
  refine Call_ (ld_blt I hg hm boot_enumerate (PyProof.Rows.callWith_type1 (thn (ha.run pos pins s σ H _ I h) fun us s1 ⟨vs, H1, I1, r1, q1⟩ => ?_) hs rfl))
  obtain ⟨a, xs, ex, hq, q⟩ := q1
  subst ex
  cases r1 with
  | cons r rr =>
    cases rr
    cases r
    obtain ⟨its, rv, p', hz⟩ := I1.tuple hq
    refine call_enum_tup (show s1.heap.IsTuple a its.toArray from p') fun h' he hit hsz hk => wpAny_pyIter_enum he ?_
    have I2 : Inv X pins σ H1 { s1 with heap := h' } := I1.kept (t' := s1.toks) hk
    refine ⟨s1.heap.objs.size + 1, [s1.heap.objs.size + 1, s1.heap.objs.size], _, _, H1, rfl, I2, turn_enumT a (s1.heap.objs.size + 1) s1.heap.objs.size, ⟨⟨.none, he⟩, hit, Nat.succ_ne_self _⟩, fun b hb => ?_, q⟩
    have z : b = s1.heap.objs.size + 1 ∨ b = s1.heap.objs.size := by simpa using hb
    have hle : s1.heap.objs.size ≤ b := by
      rcases z with z | z
      · rw [z]; exact Nat.le_add_right _ _
      · rw [z]; exact Nat.le_refl _
    exact I1.fpOk hle (I1.hok.fresh hle)
/-- a loop over enumerate of a list that stands still -/
theorem for_enum {K : PySem.W.Frag} {a : Addr} {xs : List V} {g : TG} {tb : TS} {D : Ends} {σ : L2.St} {H : Hp} (Pv : Nat → L2.St → Hp → Prop) (h0 : Pv 0 σ H) (hl : ∀ i σ H, i ≤ xs.length → Pv i σ H → SqL K H a xs)
    (hs : ∀ i x σ H (T : Addr), xs[i]? = some x → Pv i σ H → H T = none → g (.ref T) σ (upd H T (.tup [.int (i : Nat), x])) fun σ2 H2 => tb { D with nx := Pv (i + 1), ct := Pv (i + 1), bk := D.nx } σ2 H2) (hd : ∀ σ H, Pv xs.length σ H → D.nx σ H) :
    ∃ W : Nat → Nat → L2.St → Hp → Prop, (∃ m, W 0 m σ H) ∧ ∀ i m σ H, W i m σ H →
      ((Ite K a).stop i H ∧ D.nx σ H) ∨ ((Ite K a).go i H ∧ ∃ N : L2.St → Hp → Prop, (∀ σ' H', N σ' H' → ∃ m', m' < m ∧ W (i + 1) m' σ' H') ∧ ∀ x H', (Ite K a).yld i H x H' → g x σ H' fun σ2 H2 => tb { D with nx := N, ct := N, bk := D.nx } σ2 H2) := by
  refine ⟨fun i m σ H => m = xs.length - i ∧ i ≤ xs.length ∧ Pv i σ H, ⟨xs.length, by simp, Nat.zero_le _, h0⟩, ?_⟩
  rintro i m σ H ⟨rfl, hi, p⟩
  have q := hl i σ H hi p
  by_cases lt : i < xs.length
  · refine .inr ⟨⟨xs, xs[i], q, by simp [lt]⟩, Pv (i + 1), fun σ' H' p' => ⟨xs.length - (i + 1), by omega, rfl, lt, p'⟩, fun x H' y => ?_⟩
    obtain ⟨T, z, rfl, hT, rfl, y⟩ := y
    exact hs i z σ H T (y xs q) p hT
  · have e : i = xs.length := by omega
    subst e
    exact .inl ⟨⟨xs, q, Nat.le_refl _⟩, hd σ H p⟩
theorem for_enumT {K : PySem.W.Frag} {a : Addr} {xs : List V} {g : TG} {tb : TS} {D : Ends} {σ : L2.St} {H : Hp} (Pv : Nat → L2.St → Hp → Prop) (h0 : Pv 0 σ H) (hl : ∀ i σ H, i ≤ xs.length → Pv i σ H → SqT K H a xs)
    (hs : ∀ i x σ H (T : Addr), xs[i]? = some x → Pv i σ H → H T = none → g (.ref T) σ (upd H T (.tup [.int (i : Nat), x])) fun σ2 H2 => tb { D with nx := Pv (i + 1), ct := Pv (i + 1), bk := D.nx } σ2 H2) (hd : ∀ σ H, Pv xs.length σ H → D.nx σ H) :
    ∃ W : Nat → Nat → L2.St → Hp → Prop, (∃ m, W 0 m σ H) ∧ ∀ i m σ H, W i m σ H →
      ((IteT K a).stop i H ∧ D.nx σ H) ∨ ((IteT K a).go i H ∧ ∃ N : L2.St → Hp → Prop, (∀ σ' H', N σ' H' → ∃ m', m' < m ∧ W (i + 1) m' σ' H') ∧ ∀ x H', (IteT K a).yld i H x H' → g x σ H' fun σ2 H2 => tb { D with nx := N, ct := N, bk := D.nx } σ2 H2) := by
  refine ⟨fun i m σ H => m = xs.length - i ∧ i ≤ xs.length ∧ Pv i σ H, ⟨xs.length, by simp, Nat.zero_le _, h0⟩, ?_⟩
  rintro i m σ H ⟨rfl, hi, p⟩
  have q := hl i σ H hi p
  by_cases lt : i < xs.length
  · refine .inr ⟨⟨xs, xs[i], q, by simp [lt]⟩, Pv (i + 1), fun σ' H' p' => ⟨xs.length - (i + 1), by omega, rfl, lt, p'⟩, fun x H' y => ?_⟩
    obtain ⟨T, z, rfl, hT, rfl, y⟩ := y
    exact hs i z σ H T (y xs q) p hT
  · have e : i = xs.length := by omega
    subst e
    exact .inl ⟨⟨xs, q, rfl⟩, hd σ H p⟩
/-! ### a row: a list or a tuple -/
def SqR (K : PySem.W.Frag) (H : Hp) (a : Addr) (xs : List V) : Prop := SqL K H a xs ∨ SqT K H a xs
theorem same_tup {K : PySem.W.Frag} {H H' : Hp} {a : Addr} {xs : List V} (e : Same H H') (h : SqT K H a xs) : SqT K H' a xs := by
  rcases h with (h | ⟨o, h⟩) | h
  · exact .inl (.inl (e _ _ h))
  · exact .inl (.inr ⟨o, e _ _ h⟩)
  · exact .inr h
theorem SqR.same {K : PySem.W.Frag} {H H' : Hp} {a : Addr} {xs : List V} (e : Same H H') (h : SqR K H a xs) : SqR K H' a xs := h.imp e.seq (same_tup e)
/-- a loop over a row that stands still -/
theorem for_row {K : PySem.W.Frag} {a : Addr} {xs : List V} {g : TG} {tb : TS} {D : Ends} {σ : L2.St} {H : Hp} {ta : TE} (ea : ∀ Q, Q (.ref a) H → ta σ H Q) (Pv : Nat → L2.St → Hp → Prop) {Hb : Hp} (hr : SqR K Hb a xs) (h0 : Pv 0 σ H) (hl : ∀ i σ H', i ≤ xs.length → Pv i σ H' → Same Hb H')
    (hs : ∀ i x σ H, xs[i]? = some x → Pv i σ H → g x σ H fun σ2 H2 => tb { D with nx := Pv (i + 1), ct := Pv (i + 1), bk := D.nx } σ2 H2) (hd : ∀ σ H, Pv xs.length σ H → D.nx σ H) :
    tFor (fun σ H R => iList K ta σ H R ∨ iTup K ta σ H R) g tb D σ H := by
  rcases hr with hr | hr
  · exact .inl (ea _ ⟨a, rfl, ⟨_, (hl 0 σ H (Nat.zero_le _) h0).seq hr⟩, for_list (K := K) (a := a) (xs := xs) Pv h0 (fun i σ H' hi p => (hl i σ H' hi p).seq hr) hs hd⟩)
  · exact .inr (ea _ ⟨a, rfl, ⟨_, same_tup (hl 0 σ H (Nat.zero_le _) h0) hr⟩, for_tup (K := K) (a := a) (xs := xs) Pv h0 (fun i σ H' hi p => same_tup (hl i σ H' hi p) hr) hs hd⟩)
/-- .. over enumerate of a row -/
theorem for_enumR {K : PySem.W.Frag} {a : Addr} {xs : List V} {g : TG} {tb : TS} {D : Ends} {σ : L2.St} {H : Hp} {ta : TA} (ea : ∀ Q, Q [.ref a] H → ta σ H Q) (Pv : Nat → L2.St → Hp → Prop) {Hb : Hp} (hr : SqR K Hb a xs) (h0 : Pv 0 σ H) (hl : ∀ i σ H', i ≤ xs.length → Pv i σ H' → Same Hb H')
    (hs : ∀ i x σ H (T : Addr), xs[i]? = some x → Pv i σ H → H T = none → g (.ref T) σ (upd H T (.tup [.int (i : Nat), x])) fun σ2 H2 => tb { D with nx := Pv (i + 1), ct := Pv (i + 1), bk := D.nx } σ2 H2) (hd : ∀ σ H, Pv xs.length σ H → D.nx σ H) :
    tFor (fun σ H R => iEnum K ta σ H R ∨ iEnumT K ta σ H R) g tb D σ H := by
  rcases hr with hr | hr
  · exact .inl (ea _ ⟨a, _, rfl, (hl 0 σ H (Nat.zero_le _) h0).seq hr, for_enum (K := K) (a := a) (xs := xs) Pv h0 (fun i σ H' hi p => (hl i σ H' hi p).seq hr) hs hd⟩)
  · exact .inr (ea _ ⟨a, _, rfl, same_tup (hl 0 σ H (Nat.zero_le _) h0) hr, for_enumT (K := K) (a := a) (xs := xs) Pv h0 (fun i σ H' hi p => same_tup (hl i σ H' hi p) hr) hs hd⟩)
theorem ty_L {K : PySem.W.Frag} {H : Hp} {a : Addr} {xs : List V} (h : SqL K H a xs) : TyX K H (.ref a) (.type "list") := by
  rcases h with (h | ⟨o, h⟩) | ⟨o, its, n, h1, h2, _⟩
  · exact .base (.lst h)
  · exact .base (.frz h)
  · exact .kList h1 h2
theorem ty_T {K : PySem.W.Frag} {H : Hp} {a : Addr} {xs : List V} (h : SqT K H a xs) : TyX K H (.ref a) (.type "tuple") := by
  rcases h with (h | ⟨o, h⟩) | ⟨o, its, n, h1, h2, _⟩
  · exact .base (.tup h)
  · exact .fTuple h
  · exact .kTuple h1 h2
/-- isinstance(row, (list, tuple)) -/
theorem isRow {K : PySem.W.Frag} {H : Hp} {a tp : Addr} {xs : List V} {Q : VK} (h : SqR K H a xs) (ht : H tp = some (.tup [.ty "list", .ty "tuple"])) (q : Q (.bl true) H) : rIsiT K [.ref a, .ref tp] H Q := by
  have pc : Paired ClsV [.ty "list", .ty "tuple"] [.type "list", .type "tuple"] := .cons (.ty _) (.cons (.ty _) .nil)
  rcases h with h | h
  · exact ⟨_, tp, _, _, _, true, rfl, ht, pc, ty_L h, kitAny_cons (kit_ty (r := true) (by decide +kernel)) (fun z => nomatch z) (fun _ => rfl), q⟩
  · exact ⟨_, tp, _, _, _, true, rfl, ht, pc, ty_T h, kitAny_cons (kit_ty (r := false) (by decide +kernel)) (fun _ => kitAny_cons (kit_ty (r := true) (by decide +kernel)) (fun z => nomatch z) (fun _ => rfl)) (fun z => nomatch z), q⟩
theorem sortedR {K : PySem.W.Frag} {H : Hp} {a : Addr} {ns : List Int} {Q : VK} (hp : SqR K H a (ns.map V.int)) (h : ∀ (ms : List Int) (p : Addr) (G : Hp), ms.Perm ns → ms.Pairwise (· ≤ ·) → G p = some (.lst (ms.map V.int)) → Same H G → H p = none → Q (.ref p) G) : rSortedI K [.ref a] H Q ∨ rSortedTup K [.ref a] H Q :=
  hp.imp (fun q => Rd.sortedI q h) fun q => ⟨a, ns, rfl, q, fun ms p h1 h2 h3 => h ms p _ h1 h2 upd_same (fun b u e => by rw [upd_ne (ne_of_none e h3)]; exact e) h3⟩
end Ru

/-! Readings of texts, comprehensions and own objects by their heads; letters. -/
namespace Rd
open PySem PySem.Spec PyProof.Rows L2
variable {X : Cx} {D : Ends} {σ : L2.St} {H : Hp} {K : PySem.W.Frag}
/-! ### texts -/
def nAddS : R2 := fun x y H Q => ∃ i j, x = .str i ∧ y = .str j ∧ i.length + j.length ≤ sizeLine ∧ Q (.str (i ++ j)) H
theorem o_addS : OpR X (binaryOp .Add) nAddS := op_add_str
theorem addS {i j : Str} {Q : VK} (hz : i.length + j.length ≤ sizeLine) (h : Q (.str (i ++ j)) H) : nAddS (.str i) (.str j) H Q := ⟨i, j, rfl, rfl, hz, h⟩
def nInC : R2 := fun x y H Q => ∃ (c : Nat) (z : Str), x = .str ⟨#[c]⟩ ∧ y = .str z ∧ Q (.bl (decide (c ∈ z.cps.toList))) H
theorem o_inC : OpR X (compareOp .In) nInC := op_in_sign
theorem inC {c : Nat} {z : Str} {Q : VK} (h : Q (.bl (decide (c ∈ z.cps.toList))) H) : nInC (.str ⟨#[c]⟩) (.str z) H Q := ⟨c, z, rfl, rfl, h⟩
theorem inCT {c : Nat} {z : Str} {Q : VK} (e : c ∈ z.cps.toList) (h : Q (.bl true) H) : nInC (.str ⟨#[c]⟩) (.str z) H Q := inC (by rw [decide_eq_true e]; exact h)
theorem nodup_take {α : Type} {l : List α} {i : Nat} {x : α} (nd : l.Nodup) (h : l[i]? = some x) : x ∉ l.take i := by
  intro m
  obtain ⟨j, hj, e⟩ := List.getElem_of_mem m
  rw [List.length_take] at hj
  have e2 : l[j]? = some x := by rw [← e, List.getElem_take]; exact List.getElem?_eq_getElem (by omega)
  have := (List.getElem?_inj (by omega) nd).mp (e2.trans h.symm)
  omega
theorem ixS {z : Str} {i : Int} {c : Nat} {Q : VK} (hz : z.length ≤ sizeLine) (e : atI z.cps.toList i = some c) (h : Q (.str ⟨#[c]⟩) H) : rIxS (.str z) (.int i) H Q := ⟨z, i, c, rfl, rfl, hz, e, h⟩
theorem inStrs {neg : Bool} {z : Str} {p : Addr} {ws : List Str} {Q : VK} (hp : SqL K H p (ws.map V.str) ∨ SqT K H p (ws.map V.str)) (h : Q (.bl (if neg then !decide (z ∈ ws) else decide (z ∈ ws))) H) : rIn K neg (.str z) (.ref p) H Q := by
  have e : inV (.str z) (ws.map V.str) = decide (z ∈ ws) := by
    unfold inV
    rw [List.any_map, Bool.eq_iff_iff, List.any_eq_true, decide_eq_true_iff]
    constructor
    · rintro ⟨y, hy, q⟩
      have : y = z := by simpa [eqV] using q
      exact this ▸ hy
    · intro hz
      exact ⟨z, hz, by simp [eqV]⟩
  exact Rd.inS hp rfl (flat_strs ws) (by rw [e]; exact h)
theorem inStrsY {z : Str} {p : Addr} {ws : List Str} {Q : VK} (hp : SqL K H p (ws.map V.str) ∨ SqT K H p (ws.map V.str)) (h : Q (.bl (decide (z ∈ ws))) H) : rIn K false (.str z) (.ref p) H Q := inStrs hp h
theorem inStrsN {z : Str} {p : Addr} {ws : List Str} {Q : VK} (hp : SqL K H p (ws.map V.str) ∨ SqT K H p (ws.map V.str)) (h : Q (.bl (!decide (z ∈ ws))) H) : rIn K true (.str z) (.ref p) H Q := inStrs hp h
theorem inInts {neg : Bool} {z : Int} {p : Addr} {ws : List Int} {Q : VK} (hp : SqL K H p (ws.map V.int) ∨ SqT K H p (ws.map V.int)) (h : Q (.bl (if neg then !decide (z ∈ ws) else decide (z ∈ ws))) H) : rIn K neg (.int z) (.ref p) H Q := by
  have e : inV (.int z) (ws.map V.int) = decide (z ∈ ws) := by
    unfold inV
    rw [List.any_map, Bool.eq_iff_iff, List.any_eq_true, decide_eq_true_iff]
    constructor
    · rintro ⟨y, hy, q⟩
      have : y = z := by simpa [eqV] using q
      exact this ▸ hy
    · intro hz
      exact ⟨z, hz, by simp [eqV]⟩
  exact Rd.inS hp rfl (by rw [List.all_map]; exact List.all_eq_true.mpr fun _ _ => rfl) (by rw [e]; exact h)
theorem inIntsY {z : Int} {p : Addr} {ws : List Int} {Q : VK} (hp : SqL K H p (ws.map V.int) ∨ SqT K H p (ws.map V.int)) (h : Q (.bl (decide (z ∈ ws))) H) : rIn K false (.int z) (.ref p) H Q := inInts hp h
theorem inIntsN {z : Int} {p : Addr} {ws : List Int} {Q : VK} (hp : SqL K H p (ws.map V.int) ∨ SqT K H p (ws.map V.int)) (h : Q (.bl (!decide (z ∈ ws))) H) : rIn K true (.int z) (.ref p) H Q := inInts hp h
theorem map_str {ns : List Str} {i : Nat} (h : i < ns.length) : (ns.map V.str)[i]? = some (.str ns[i]) := by simp [h]
theorem map_strG {ns : List Str} {i : Nat} {x : V} (h : (ns.map V.str)[i]? = some x) : ∃ n, ns[i]? = some n ∧ x = .str n := by
  rw [List.getElem?_map] at h
  cases e : ns[i]? with
  | none => rw [e] at h; cases h
  | some z => rw [e] at h; exact ⟨z, rfl, (Option.some.inj h).symm⟩
theorem map_refG {ns : List Addr} {i : Nat} {x : V} (h : (ns.map V.ref)[i]? = some x) : ∃ n, ns[i]? = some n ∧ x = .ref n := by
  rw [List.getElem?_map] at h
  cases e : ns[i]? with
  | none => rw [e] at h; cases h
  | some z => rw [e] at h; exact ⟨z, rfl, (Option.some.inj h).symm⟩
theorem map_ref {ns : List Addr} {i : Nat} (h : i < ns.length) : (ns.map V.ref)[i]? = some (.ref ns[i]) := by simp [h]
theorem ins {l : Addr} {xs : List V} {i : Int} {y : V} {Q : VK} (hp : H l = some (.lst xs)) (hz : xs.length < sizeLine) (h0 : 0 ≤ i) (h1 : i < 2 ^ 63) (h : ∀ G : Hp, G l = some (.lst (xs.take i.toNat ++ [y] ++ xs.drop i.toNat)) → (∀ b, b ≠ l → G b = H b) → Q .non G) :
    ∃ (l' : Addr) (xs' : List V) (i' : Int) (y' : V), V.ref l = .ref l' ∧ [V.int i, y] = [.int i', y'] ∧ H l' = some (.lst xs') ∧ xs'.length < sizeLine ∧ 0 ≤ i' ∧ i' < 2 ^ 63 ∧ Q .non (upd H l' (.lst (xs'.take i'.toNat ++ [y'] ++ xs'.drop i'.toNat))) :=
  ⟨l, xs, i, y, rfl, rfl, hp, hz, h0, h1, h _ upd_same fun b hb => upd_ne hb⟩
def nInsert : V → List V → Hp → VK → Prop := fun x vs H Q => ∃ (l : Addr) (xs : List V) (i : Int) (y : V), x = .ref l ∧ vs = [.int i, y] ∧ H l = some (.lst xs) ∧ xs.length < sizeLine ∧ 0 ≤ i ∧ i < 2 ^ 63 ∧
    Q .non (upd H l (.lst (xs.take i.toNat ++ [y] ++ xs.drop i.toNat)))
theorem m_insert : MtR X "list.insert" nInsert := mt_insert
theorem insert {l : Addr} {xs : List V} {i : Int} {y : V} {Q : VK} (hp : H l = some (.lst xs)) (hz : xs.length < sizeLine) (h0 : 0 ≤ i) (h1 : i < 2 ^ 63) (h : ∀ G : Hp, G l = some (.lst (xs.take i.toNat ++ [y] ++ xs.drop i.toNat)) → (∀ b, b ≠ l → G b = H b) → Q .non G) : nInsert (.ref l) [.int i, y] H Q :=
  ins hp hz h0 h1 h
/-! ### equal lists of texts -/
theorem dpAll_strs : ∀ ns : List Str, DpAll K H (ns.map V.str) (ns.map PyData.str)
  | [] => .nil
  | n :: ns => .cons (.str n) (dpAll_strs ns)
theorem canLay_strs : ∀ ns : List Str, (∀ z ∈ ns, PyData.strOk z = true) → PyData.canLayAll0 (ns.map PyData.str) = true
  | [], _ => rfl
  | n :: ns, h => by
    show (PyData.canLay0 (.str n) && PyData.canLayAll0 (ns.map PyData.str)) = true
    rw [canLay_strs ns fun z hz => h z (List.mem_cons_of_mem _ hz)]
    show (PyData.strOk n && true) = true
    rw [h n List.mem_cons_self]
    rfl
theorem depth_strs : ∀ ns : List Str, PyData.depthAll (ns.map PyData.str) = 0
  | [] => rfl
  | n :: ns => by
    show max (PyData.depth (.str n)) (PyData.depthAll (ns.map PyData.str)) = 0
    rw [depth_strs ns]
    rfl
theorem shaped_strs {ns : List Str} (h : ∀ z ∈ ns, PyData.strOk z = true) : SeqAt.shaped (.list (ns.map PyData.str)) = true := by
  have h1 : PyData.canLay0 (.list (ns.map PyData.str)) = true := canLay_strs ns h
  have h2 : PyData.depth (.list (ns.map PyData.str)) = 1 := by
    show PyData.depthAll (ns.map PyData.str) + 1 = 1
    rw [depth_strs]
  unfold SeqAt.shaped
  rw [h1, h2]
  rfl
theorem eqStrs {a b : Addr} {ns : List Str} {Q : VK} (h1 : SqL K H a (ns.map V.str)) (h2 : SqL K H b (ns.map V.str)) (h : ∀ z ∈ ns, PyData.strOk z = true) (q : Q (.bl true) H) : rEqD K (.ref a) (.ref b) H Q := by
  refine ⟨_, _, .lst h1 (dpAll_strs ns), .lst h2 (dpAll_strs ns), shaped_strs h, shaped_strs h, ?_⟩
  rw [SeqAt.eqv_refl _ (SeqAt.canLay_of_shaped (shaped_strs h))]
  exact q
theorem neStrs {a b : Addr} {ns : List Str} {Q : VK} (h1 : SqL K H a (ns.map V.str)) (h2 : SqL K H b (ns.map V.str)) (h : ∀ z ∈ ns, PyData.strOk z = true) (q : Q (.bl false) H) : rNeD K (.ref a) (.ref b) H Q := by
  refine ⟨_, _, .lst h1 (dpAll_strs ns), .lst h2 (dpAll_strs ns), shaped_strs h, shaped_strs h, ?_⟩
  rw [SeqAt.eqv_refl _ (SeqAt.canLay_of_shaped (shaped_strs h))]
  exact q
/-! ### equal lists of ints -/
theorem dpAll_ints : ∀ ns : List Int, DpAll K H (ns.map V.int) (ns.map PyData.int)
  | [] => .nil
  | n :: ns => .cons (.int n) (dpAll_ints ns)
theorem canLay_ints : ∀ ns : List Int, PyData.canLayAll0 (ns.map PyData.int) = true
  | [] => rfl
  | n :: ns => by
    show (PyData.canLay0 (.int n) && PyData.canLayAll0 (ns.map PyData.int)) = true
    rw [canLay_ints ns]
    rfl
theorem depth_ints : ∀ ns : List Int, PyData.depthAll (ns.map PyData.int) = 0
  | [] => rfl
  | n :: ns => by
    show max (PyData.depth (.int n)) (PyData.depthAll (ns.map PyData.int)) = 0
    rw [depth_ints ns]
    rfl
theorem shaped_ints (ns : List Int) : SeqAt.shaped (.list (ns.map PyData.int)) = true := by
  have h1 : PyData.canLay0 (.list (ns.map PyData.int)) = true := canLay_ints ns
  have h2 : PyData.depth (.list (ns.map PyData.int)) = 1 := by
    show PyData.depthAll (ns.map PyData.int) + 1 = 1
    rw [depth_ints]
  unfold SeqAt.shaped
  rw [h1, h2]
  rfl
theorem eqv_ints : ∀ (xs ys : List Int), PyData.eqvAll (xs.map PyData.int) (ys.map PyData.int) = decide (xs = ys)
  | [], [] => rfl
  | [], _ :: _ => rfl
  | _ :: _, [] => rfl
  | x :: xs, y :: ys => by
    show (PyData.eqv (.int x) (.int y) && PyData.eqvAll (xs.map PyData.int) (ys.map PyData.int)) = _
    rw [eqv_ints xs ys, Bool.eq_iff_iff]
    show ((x == y) && decide (xs = ys)) = true ↔ _
    simp
theorem eqInts {a b : Addr} {ns ms : List Int} {Q : VK} (h1 : SqL K H a (ns.map V.int)) (h2 : SqL K H b (ms.map V.int)) (q : Q (.bl (decide (ns = ms))) H) : rEqD K (.ref a) (.ref b) H Q := by
  refine ⟨_, _, .lst h1 (dpAll_ints ns), .lst h2 (dpAll_ints ms), shaped_ints ns, shaped_ints ms, ?_⟩
  show Q (.bl (PyData.eqvAll (ns.map PyData.int) (ms.map PyData.int))) H
  rw [eqv_ints]
  exact q
theorem neInts {a b : Addr} {ns ms : List Int} {Q : VK} (h1 : SqL K H a (ns.map V.int)) (h2 : SqL K H b (ms.map V.int)) (q : Q (.bl (!decide (ns = ms))) H) : rNeD K (.ref a) (.ref b) H Q := by
  refine ⟨_, _, .lst h1 (dpAll_ints ns), .lst h2 (dpAll_ints ms), shaped_ints ns, shaped_ints ms, ?_⟩
  show Q (.bl (!PyData.eqvAll (ns.map PyData.int) (ms.map PyData.int))) H
  rw [eqv_ints]
  exact q
/-! ### comprehensions -/
def Lc (J : It) (g : TG) (tt : TT) (te : TE) (vs : List Nat) (σ : L2.St) (H1 : Hp) (Q : VK) : Prop := ∀ D, H1 D = none → ∃ W : Nat → Nat → Hp → Prop, (∃ m, W 0 m (upd H1 D (.lst []))) ∧ ∀ i m H, W i m H →
  (J.stop i H ∧ Q (.ref D) H) ∨ (J.go i H ∧ ∃ Nx : Hp → Prop, (∀ H', Nx H' → ∃ m', m' < m ∧ W (i + 1) m' H') ∧ ∀ x H', J.yld i H x H' → g x (wipe σ vs) H' fun σ2 H2 => wipe σ2 vs = wipe σ vs ∧ tt σ2 H2 fun b H3 =>
    if b = true then te σ2 H3 fun y H4 => ∃ acc, H4 D = some (.lst acc) ∧ acc.length < sizeLine ∧ Nx (upd H4 D (.lst (acc ++ [y]))) else Nx H3)
theorem lc {wi : TI} {g : TG} {tt : TT} {te : TE} {vs : List Nat} {Q : VK} (h : wi σ H fun J H1 => Lc J g tt te vs σ H1 Q) : tLc wi g tt te vs σ H Q := h
theorem istr {te : TE} {R : It → Hp → Prop} (h : te σ H fun v H1 => ∃ x, v = .str x ∧ R (Its x) H1) : iStr te σ H R := h
theorem strE {z : Str} {P : Str → Prop} (h : P z) : ∃ x, V.str z = .str x ∧ P x := ⟨z, rfl, h⟩
theorem tyes {Q : Bool → Hp → Prop} (h : Q true H) : tYes σ H Q := h
/-- the state of a comprehension: the list at D holds acc, all ahead of it stands -/
def LcP (D : Addr) (H1 : Hp) (R : Nat → List V → Hp → Prop) : Nat → Hp → Prop := fun i H => ∃ acc, H D = some (.lst acc) ∧ Same H1 H ∧ R i acc H
def LcPush (D : Addr) (H1 : Hp) (R : Nat → List V → Hp → Prop) (i : Nat) (y : V) (H4 : Hp) : Prop := ∃ acc, H4 D = some (.lst acc) ∧ acc.length < sizeLine ∧ LcP D H1 R (i + 1) (upd H4 D (.lst (acc ++ [y])))
theorem lcPush {D : Addr} {H1 H4 : Hp} {R : Nat → List V → Hp → Prop} {i : Nat} {y : V} {acc : List V} (hD : H4 D = some (.lst acc)) (nD : H1 D = none) (s1 : Same H1 H4) (hz : acc.length < sizeLine) (r : ∀ G : Hp, G D = some (.lst (acc ++ [y])) → (∀ b, b ≠ D → G b = H4 b) → R (i + 1) (acc ++ [y]) G) : LcPush D H1 R i y H4 :=
  ⟨acc, hD, hz, acc ++ [y], upd_same, fun b o e => by rw [upd_ne (ne_of_none e nD)]; exact s1 b o e, r _ upd_same fun b hb => upd_ne hb⟩
theorem lcS {J : It} {n : Nat} {G : Hp → Prop} {Y : Nat → Hp → V → Hp → Prop} (w : Walk J n G Y) {g : TG} {tt : TT} {te : TE} {vs : List Nat} {H1 : Hp} {Q : VK} (hG : ∀ H, Same H1 H → G H) (R : Addr → Nat → List V → Hp → Prop)
    (r0 : ∀ (D : Addr) (G : Hp), H1 D = none → G D = some (.lst []) → Same H1 G → R D 0 [] G)
    (hs : ∀ (D : Addr) i x H H' acc, H1 D = none → i < n → H D = some (.lst acc) → Same H1 H → R D i acc H → Y i H x H' → g x (wipe σ vs) H' fun σ2 H2 => wipe σ2 vs = wipe σ vs ∧ tt σ2 H2 fun b H3 =>
      if b = true then te σ2 H3 fun y H4 => LcPush D H1 (R D) i y H4 else LcP D H1 (R D) (i + 1) H3)
    (hd : ∀ (D : Addr) acc H, H1 D = none → H D = some (.lst acc) → Same H1 H → R D n acc H → Q (.ref D) H) : Lc J g tt te vs σ H1 Q := fun D nD =>
  lc_it w (LcP D H1 (R D)) ⟨[], upd_same, same_upd nD, r0 D _ nD upd_same (same_upd nD)⟩ (fun i H hi ⟨acc, h1, h2, h3⟩ => hG H h2)
    (fun i x H H' hi ⟨acc, h1, h2, h3⟩ y => hs D i x H H' acc nD hi h1 h2 h3 y) (fun H ⟨acc, h1, h2, h3⟩ => hd D acc H nD h1 h2 h3)
/-- .. over a row: a list or a tuple -/
theorem lcRow {a : Addr} {xs : List V} {ta : TE} {g : TG} {tt : TT} {te : TE} {vs : List Nat} {H1 : Hp} {Q : VK} (ea : ∀ Q : VK, Q (.ref a) H1 → ta σ H1 Q) (hr : Ru.SqR K H1 a xs) (R : Addr → Nat → List V → Hp → Prop)
    (r0 : ∀ (D : Addr) (G : Hp), H1 D = none → G D = some (.lst []) → Same H1 G → R D 0 [] G)
    (hs : ∀ (D : Addr) i x H acc, H1 D = none → i < xs.length → H D = some (.lst acc) → Same H1 H → R D i acc H → xs[i]? = some x → g x (wipe σ vs) H fun σ2 H2 => wipe σ2 vs = wipe σ vs ∧ tt σ2 H2 fun b H3 =>
      if b = true then te σ2 H3 fun y H4 => LcPush D H1 (R D) i y H4 else LcP D H1 (R D) (i + 1) H3)
    (hd : ∀ (D : Addr) acc H, H1 D = none → H D = some (.lst acc) → Same H1 H → R D xs.length acc H → Q (.ref D) H) : (fun σ H R => iList K ta σ H R ∨ iTup K ta σ H R) σ H1 fun J H1 => Lc J g tt te vs σ H1 Q := by
  rcases hr with hr | hr
  · exact .inl (ea _ ⟨a, rfl, ⟨_, hr⟩, lcS walk_list (fun _ s => s.seq hr) R r0 (fun D i x H H' acc nD hi hD sm r ⟨e, hx⟩ => by cases e; exact hs D i x H acc nD hi hD sm r hx) hd⟩)
  · exact .inr (ea _ ⟨a, rfl, ⟨_, hr⟩, lcS walk_tup (fun _ s => Ru.same_tup s hr) R r0 (fun D i x H H' acc nD hi hD sm r ⟨e, hx⟩ => by cases e; exact hs D i x H acc nD hi hD sm r hx) hd⟩)
theorem wipeE {A B : L2.St} {P : Prop} (e : A = B) (h : P) : A = B ∧ P := ⟨e, h⟩
/-! ### list(range(..)) -/
theorem lstRg {te : L2.St → Hp → (Int → Int → Hp → Prop) → Prop} {Q : VK} (h : te σ H fun a b H1 => RgOk a b ∧ NewQ (.lst (rgV a b)) Q H1) : tLstRg te σ H Q := h
theorem tupRg {te : L2.St → Hp → (Int → Int → Hp → Prop) → Prop} {Q : VK} (h : te σ H fun a b H1 => RgOk a b ∧ NewQ (.tup (rgV a b)) Q H1) : tTupRg te σ H Q := h
theorem rg1 {ta : TE} {Q : Int → Int → Hp → Prop} (h : ta σ H fun x H1 => ∃ n, x = .int n ∧ Q 0 n H1) : tRg1 ta σ H Q := h
theorem rg2 {ta tb : TE} {Q : Int → Int → Hp → Prop} (h : ta σ H fun x H1 => tb σ H1 fun y H2 => ∃ i j, x = .int i ∧ y = .int j ∧ Q i j H2) : tRg2 ta tb σ H Q := h
theorem intE2 {i j : Int} {P : Int → Int → Prop} (h : P i j) : ∃ a b, V.int i = .int a ∧ V.int j = .int b ∧ P a b := ⟨i, j, rfl, rfl, h⟩
theorem rgV0 (n : Nat) : rgV 0 (n : Int) = ((List.range n).map fun i : Nat => (i : Int)).map V.int := by
  unfold rgV
  rw [List.map_map, show ((n : Int) - 0).toNat = n by omega]
  refine List.map_congr_left fun i _ => ?_
  show V.int (0 + (i : Nat)) = V.int (i : Int)
  rw [Int.zero_add]
/-! ### dicts with ints as keys -/
theorem dnew {Q : VK} (h : ∀ (p : Addr) (G : Hp), H p = none → G p = some (.dK []) → Same H G → Q (.ref p) G) : tDNewK σ H Q :=
  fun p hp => h p _ hp upd_same fun b u e => by rw [upd_ne (ne_of_none e hp)]; exact e
theorem dgetH {td ty : TE} {Q : VK} (h : td σ H fun x H1 => ty σ H1 fun y H2 => ∃ a v, x = .ref a ∧ DGet H2 a y (some v) ∧ Q v H2) : tDGet td ty σ H Q := h
theorem dget {a : Addr} {kvs : List (Key × V)} {k : Int} {v : V} {P : V → Prop} (e : H a = some (.dK kvs)) (hv : valV kvs (.inl k) = some v) (q : P v) : ∃ a' v', V.ref a = .ref a' ∧ DGet H a' (.int k) (some v') ∧ P v' :=
  ⟨a, v, rfl, hv ▸ DGet.k (k := .inl k) e, q⟩
theorem dgetF {a : Addr} {o : Obj} {kvs : List (Key × V)} {k : Int} {v : V} {P : V → Prop} (e : H a = some (.frz o (.dK kvs))) (hv : valV kvs (.inl k) = some v) (q : P v) : ∃ a' v', V.ref a = .ref a' ∧ DGet H a' (.int k) (some v') ∧ P v' :=
  ⟨a, v, rfl, .inl ⟨kvs, .inl k, .inr ⟨o, e⟩, rfl, hv.symm⟩, q⟩
theorem dinH {ty td : TE} {Q : VK} (h : ty σ H fun y H1 => td σ H1 fun x H2 => ∃ a o, x = .ref a ∧ DGet H2 a y o ∧ Q (.bl o.isSome) H2) : tDIn ty td σ H Q := h
theorem dninH {ty td : TE} {Q : VK} (h : ty σ H fun y H1 => td σ H1 fun x H2 => ∃ a o, x = .ref a ∧ DGet H2 a y o ∧ Q (.bl (!o.isSome)) H2) : tDNotIn ty td σ H Q := h
theorem dany {a : Addr} {kvs : List (Key × V)} {k : Int} {P : Option V → Prop} (e : H a = some (.dK kvs)) (q : P (valV kvs (.inl k))) : ∃ a' o, V.ref a = .ref a' ∧ DGet H a' (.int k) o ∧ P o :=
  ⟨a, _, rfl, DGet.k (k := .inl k) e, q⟩
theorem dput {a : Addr} {kvs : List (Key × V)} {k : Int} {v : V} {Q : Hp → Prop} (e : H a = some (.dK kvs)) (hl : kvs.length < sizeLine) (h : ∀ G : Hp, G a = some (.dK (putK kvs (.inl k) v)) → (∀ b, b ≠ a → G b = H b) → Q G) : rSetD (.ref a) (.int k) v H Q :=
  ⟨a, _, rfl, DPut.k (k := .inl k) e hl, h _ upd_same fun b hb => upd_ne hb⟩
theorem dget1H {td ty : TE} {Q : VK} (h : td σ H fun x H1 => ∃ a, x = .ref a ∧ IsD H1 a ∧ ty σ H1 fun y H2 => ∃ o, DGet H2 a y o ∧ Q (o.getD .non) H2) : tDGet1 td ty σ H Q := h
theorem isD {a : Addr} {kvs : List (Key × V)} {P : Addr → Prop} (e : H a = some (.dK kvs)) (q : P a) : ∃ a', V.ref a = .ref a' ∧ IsD H a' ∧ P a' := ⟨a, rfl, .inl ⟨kvs, .inl e⟩, q⟩
theorem dgetO {a : Addr} {kvs : List (Key × V)} {k : Int} {P : Option V → Prop} (e : H a = some (.dK kvs)) (q : P (valV kvs (.inl k))) : ∃ o, DGet H a (.int k) o ∧ P o := ⟨_, DGet.k (k := .inl k) e, q⟩
/-- a for over the keys of a dict that is written nowhere in it -/
theorem forD {td : TE} {g : TG} {tb : TS} {a : Addr} {kvs : List (Key × V)} (hd : H a = some (.dK kvs)) (et : ∀ (H1 : Hp) (Q : VK), Q (.ref a) H1 → td σ H1 Q) (Pv : Nat → L2.St → Hp → Prop)
    (h0 : ∀ od, Pv 0 σ (upd H a (.frz od (.dK kvs)))) (hs : ∀ od i k v σ H, kvs[i]? = some (k, v) → H a = some (.frz od (.dK kvs)) → Pv i σ H → g (kV k) σ H fun σ2 H2 => tb { nx := fun σ' H' => H' a = some (.frz od (.dK kvs)) ∧ Pv (i + 1) σ' H', rt := fun v H' => H' a = some (.frz od (.dK kvs)) ∧ D.rt v (upd H' a (.dK kvs)), bk := fun σ' H' => H' a = some (.frz od (.dK kvs)) ∧ D.nx σ' (upd H' a (.dK kvs)), ct := fun σ' H' => H' a = some (.frz od (.dK kvs)) ∧ Pv (i + 1) σ' H' } σ2 H2)
    (hn : ∀ od σ H, H a = some (.frz od (.dK kvs)) → Pv kvs.length σ H → D.nx σ (upd H a (.dK kvs))) : tLock (tFor (iKeys td) g tb) D σ H := by
  refine ⟨a, .dK kvs, hd, trivial, fun od => ?_⟩
  refine et _ _ ⟨a, od, rfl, .inl ⟨kvs, upd_same, ?_⟩⟩
  exact for_it walk_keys (fun i σ H => H a = some (.frz od (.dK kvs)) ∧ Pv i σ H) ⟨upd_same, h0 od⟩ (fun i σ H _ h => h.1)
    (fun i x σ H H' hi ⟨h1, h2⟩ ⟨e, k, v, hk, hx⟩ => by cases e; cases hx; exact hs od i k v σ H hk h1 h2) (fun σ H ⟨h1, h2⟩ => ⟨h1, hn od σ H h1 h2⟩)
def nListD : List V → Hp → VK → Prop := fun xs H Q => ∃ p kvs, xs = [.ref p] ∧ H p = some (.dK kvs) ∧ ∀ q, H q = none → Q (.ref q) (upd H q (.lst (kvs.map fun kv => kV kv.1)))
theorem listD {a : Addr} {kvs : List (Key × V)} {Q : VK} (e : H a = some (.dK kvs)) (h : NewQ (.lst (kvs.map fun kv => kV kv.1)) Q H) : rListD [.ref a] H Q := ⟨a, kvs, rfl, e, h⟩
/-! ### joins -/
theorem m1 {r : V → List V → Hp → VK → Prop} {to te : TE} {Q : VK} (h : to σ H fun x H1 => (∃ a, x = .str a) ∧ te σ H1 fun y H2 => r x [y] H2 Q) : tM1 r to te σ H Q := h
theorem strX {a : Str} {R : Prop} (h : R) : (∃ b, V.str a = .str b) ∧ R := ⟨⟨a, rfl⟩, h⟩
theorem join {a : Str} {p : Addr} {ys : List Str} {Q : VK} (hp : SqL K H p (ys.map V.str) ∨ SqT K H p (ys.map V.str)) (hz : (ys.map (·.length)).sum + ys.length * a.length ≤ 16777216) (h : Q (.str (Txt.join a ys)) H) :
    ∃ a' p', ∃ ys' : List Str, V.str a = .str a' ∧ [V.ref p] = [.ref p'] ∧ (SqL K H p' (ys'.map V.str) ∨ SqT K H p' (ys'.map V.str)) ∧ (ys'.map (·.length)).sum + ys'.length * a'.length ≤ 16777216 ∧ Q (.str (Txt.join a' ys')) H := ⟨a, p, ys, rfl, rfl, hp, hz, h⟩
/-! ### own objects -/
def FldG (K : PySem.W.Frag) (f : Str) : V → Hp → VK → Prop := fun x H1 Q => ∃ a C dx fs v, x = .ref a ∧ H1 a = some (.ins C dx fs) ∧ Cls K C ∧ NoAttr K C f ∧ fs.lookup f = some v ∧ Q v H1
theorem fldH {ta : TE} {f : Str} {Q : VK} (h : ta σ H fun x H1 => FldG K f x H1 Q) : tFld K ta f σ H Q := h
theorem fld {f : Str} {a C dx : Addr} {fs : List (Str × V)} {v : V} {Q : VK} (e : H a = some (.ins C dx fs)) (c : Cls K C) (n : NoAttr K C f) (l : fs.lookup f = some v) (q : Q v H) : FldG K f (.ref a) H Q := ⟨a, C, dx, fs, v, rfl, e, c, n, l, q⟩
def FldS (K : PySem.W.Frag) (f : Str) (y : V) : V → Hp → (Hp → Prop) → Prop := fun x H2 Q => ∃ a C dx fs, x = .ref a ∧ H2 a = some (.ins C dx fs) ∧ Cls K C ∧ NoAttr K C f ∧ fs.length < 1000 ∧ Q (upd H2 a (.ins C dx (putF f y fs)))
theorem sfldH {ta tv : TE} {f : Str} (h : tv σ H fun y H1 => ta σ H1 fun x H2 => FldS K f y x H2 (D.nx σ)) : sFld K ta tv f D σ H := h
theorem sfld {f : Str} {a C dx : Addr} {fs fs' : List (Str × V)} {y : V} {Q : Hp → Prop} (e : H a = some (.ins C dx fs)) (c : Cls K C) (n : NoAttr K C f) (l : fs.length < 1000) (hf : putF f y fs = fs') (q : ∀ G : Hp, G a = some (.ins C dx fs') → (∀ b, b ≠ a → G b = H b) → Q G) : FldS K f y (.ref a) H Q :=
  ⟨a, C, dx, fs, rfl, e, c, n, l, hf ▸ q _ upd_same fun b hb => upd_ne hb⟩
def MkG (C : Addr) (sp : Sp) (dvs : List V) (E : XK) (vs : List V) (H1 : Hp) (Q : VK) : Prop := ∀ x dx, H1 x = none → H1 dx = none → dx ≠ x → sp (.ref x :: (vs ++ dvs)) (upd (upd H1 dx (.own x)) x (.ins C dx [])) (fun v H2 => v = .non ∧ Q (.ref x) H2) E
theorem mkH {C : Addr} {sp : Sp} {dvs : List V} {E : XK} {t : TA} {Q : VK} (h : t σ H fun vs H1 => MkG C sp dvs E vs H1 Q) : tMake C sp dvs E t σ H Q := h
theorem mk {C : Addr} {sp : Sp} {dvs : List V} {E : XK} {vs : List V} {Q : VK} (h : ∀ (x dx : Addr) (G : Hp), H x = none → H dx = none → dx ≠ x → G x = some (.ins C dx []) → Same H G → (∀ b, b ≠ x → b ≠ dx → G b = H b) → sp (.ref x :: (vs ++ dvs)) G (fun v H2 => v = .non ∧ Q (.ref x) H2) E) : MkG C sp dvs E vs H Q := fun x dx hx hd hne =>
  h x dx _ hx hd hne upd_same (fun b o e => by rw [upd_ne (ne_of_none e hx), upd_ne (ne_of_none e hd)]; exact e) fun b h1 h2 => by rw [upd_ne h1, upd_ne h2]
def MethG (C : Addr) (m : Str) (x : V) (H : Hp) (Q : Prop) : Prop := ∃ a dx fs, x = .ref a ∧ H a = some (.ins C dx fs) ∧ fs.lookup m = none ∧ Q
theorem methH {C : Addr} {m : Str} {sp : Sp} {dvs : List V} {E : XK} {ta : TE} {t : TA} {Q : VK} (h : ta σ H fun x H1 => MethG C m x H1 (t σ H1 fun vs H2 => sp (x :: (vs ++ dvs)) H2 Q E)) : tMeth C m sp dvs E ta t σ H Q := h
theorem meth {C : Addr} {m : Str} {a dx : Addr} {fs : List (Str × V)} {Q : Prop} (e : H a = some (.ins C dx fs)) (l : fs.lookup m = none) (q : Q) : MethG C m (.ref a) H Q := ⟨a, dx, fs, rfl, e, l, q⟩
/-! ### isinstance -/
theorem isi {x : V} {a b : String} {r : Bool} {Q : VK} (ht : TyX K H x (.type a)) (h : kitB a b = some r) (q : Q (.bl r) H) : rIsi K [x, .ty b] H Q := ⟨_, _, _, _, r, rfl, .ty b, ht, kit_ty h, q⟩
theorem isiStr {z : Str} {Q : VK} (q : Q (.bl true) H) : rIsi K [.str z, .ty "str"] H Q := isi (.base (.str z)) (by decide +kernel) q
theorem isiB {z : Bool} {Q : VK} (q : Q (.bl true) H) : rIsi K [.bl z, .ty "bool"] H Q := isi (.base (.bl z)) (by decide +kernel) q
theorem isiI {z : Int} {Q : VK} (q : Q (.bl true) H) : rIsi K [.int z, .ty "int"] H Q := isi (.base (.int z)) (by decide +kernel) q
theorem isiIB {z : Int} {Q : VK} (q : Q (.bl false) H) : rIsi K [.int z, .ty "bool"] H Q := isi (.base (.int z)) (by decide +kernel) q
end Rd
namespace W
open PySem PySem.Spec PyProof.Rows L2
theorem kit_self {K : PySem.W.Frag} {C : Addr} : PySem.W.kitOne K (.ref C) (.ref C) = some true := by
  unfold PySem.W.kitOne
  simp
/-- what isinstance asks of an own class -/
structure OwnTy (K : PySem.W.Frag) (C : Addr) : Prop where
  ha : PySem.W.findIn K (.ref C) "__class__" = some (some (.builtin "object.__class__"))
  hn : PySem.W.specialIn K (.builtin "object.__class__") "__get__" = some (some (.builtin "getset_descriptor.__get__"))
  htk : PySem.W.takesIn K (.builtin "object.__class__") = some true
  hm : PySem.W.mroIn K C (.type "object") = some true
  me : PySem.W.kitOne K (.ref C) (.ref C) = some true
theorem isiOwn {K : PySem.W.Frag} {H : Hp} {a C dx : Addr} {fs : List (Str × V)} {Q : VK} (c : Cls K C) (o : OwnTy K C) (e : H a = some (.ins C dx fs)) (q : Q (.bl true) H) : rIsi K [.ref a, .ref C] H Q :=
  ⟨_, _, _, _, true, rfl, .own C, .base (.ins e c o.ha o.hn o.htk o.hm), o.me, q⟩
end W
/-! ### letters -/
namespace Lt
open PySem PySem.Spec PyProof.Rows L2
def Abc : Str := "abcdefghijklmnopqrstuvwxyz"
def Let (z : Str) : Prop := ∀ c ∈ z.cps.toList, c ∈ Abc.cps.toList
theorem Let.app {a b : Str} (x : Let a) (y : Let b) : Let (a ++ b) := fun c h => by
  have : c ∈ a.cps.toList ++ b.cps.toList := by
    rw [← Array.toList_append]
    exact h
  exact (List.mem_append.mp this).elim (x c) (y c)
theorem len_app (a b : Str) : (a ++ b).length = a.length + b.length := Array.size_append
theorem Let.cut {z : Str} (x : Let z) (lo hi : Option Int) : Let (cutS z lo hi) := fun c h => x c (List.mem_of_mem_drop (List.mem_of_mem_take (show c ∈ (z.cps.toList.drop _).take _ from by simpa [cutS] using h)))
theorem Let.one {c : Nat} (h : c ∈ Abc.cps.toList) : Let ⟨#[c]⟩ := fun d hd => by
  have : d = c := by simpa using hd
  exact this ▸ h
theorem Let.empty : Let "" := fun c h => by exact absurd h (by decide +revert)
theorem Let.ok {z : Str} (x : Let z) : PyData.strOk z = true := by
  unfold PyData.strOk
  rw [Array.all_eq_true']
  intro c hc
  have h := x c (by simpa using hc)
  have : ∀ c ∈ Abc.cps.toList, decide (c < 0x110000) = true := by decide +kernel
  exact this c h
theorem Let.char {z : Str} (x : Let z) {c : Nat} {i : Nat} (h : z.cps.toList[i]? = some c) : c ∈ Abc.cps.toList := x c (List.mem_of_getElem? h)
theorem cut_len {z : Str} {a b : Nat} (h : a ≤ b) (hb : b ≤ z.length) : (cutS z (some (a : Int)) (some (b : Int))).length = b - a := by
  show (((z.cps.toList.drop (HT.sIx z.length 0 (some (a : Int)))).take (HT.sIx z.length z.length (some (b : Int)) - HT.sIx z.length 0 (some (a : Int)))).toArray).size = b - a
  rw [List.size_toArray, List.length_take, List.length_drop, Array.length_toList, HT.sIx_nat, HT.sIx_nat]
  unfold Str.length at hb ⊢
  omega
theorem cut_lenI {z : Str} {a b : Int} (h0 : 0 ≤ a) (h : a ≤ b) (hb : b ≤ z.length) : ((cutS z (some a) (some b)).length : Int) = b - a := by
  have := cut_len (z := z) (a := a.toNat) (b := b.toNat) (by omega) (by omega)
  rw [show ((a.toNat : Nat) : Int) = a by omega, show ((b.toNat : Nat) : Int) = b by omega] at this
  omega
theorem cut_from {z : Str} {a : Int} (h0 : 0 ≤ a) (h : a ≤ z.length) : ((cutS z (some a) none).length : Int) = z.length - a := by
  have e : (cutS z (some a) none).length = z.length - a.toNat := by
    show (((z.cps.toList.drop (HT.sIx z.length 0 (some a))).take (HT.sIx z.length z.length none - HT.sIx z.length 0 (some a))).toArray).size = _
    have e1 : HT.sIx z.length 0 (some a) = a.toNat := by
      have := HT.sIx_nat z.length 0 a.toNat
      rw [show ((a.toNat : Nat) : Int) = a by omega] at this
      rw [this]
      omega
    rw [List.size_toArray, List.length_take, List.length_drop, Array.length_toList, e1]
    show min (z.length - a.toNat) (z.cps.size - a.toNat) = _
    unfold Str.length
    omega
  omega
theorem cut_to {z : Str} {b : Int} (h0 : 0 ≤ b) : ((cutS z none (some b)).length : Int) = min b z.length := by
  have e : (cutS z none (some b)).length = min b.toNat z.length := by
    show (((z.cps.toList.drop (HT.sIx z.length 0 none)).take (HT.sIx z.length z.length (some b) - HT.sIx z.length 0 none)).toArray).size = _
    have e1 : HT.sIx z.length z.length (some b) = min b.toNat z.length := by
      have := HT.sIx_nat z.length z.length b.toNat
      rw [show ((b.toNat : Nat) : Int) = b by omega] at this
      exact this
    have e2 : HT.sIx z.length 0 none = 0 := rfl
    rw [List.size_toArray, List.length_take, List.length_drop, Array.length_toList, e1, e2]
    unfold Str.length
    omega
  omega
theorem join_let : ∀ ys : List Str, (∀ y ∈ ys, Let y) → Let (Str.join "" ys) ∧ (Str.join "" ys).length = (ys.map (·.length)).sum
  | [], _ => ⟨fun c h => by exact absurd h (by decide +revert), by decide +kernel⟩
  | [y], h => ⟨h y (by simp), by simp [Str.join]⟩
  | y :: z :: r, h => by
    have ih := join_let (z :: r) fun x hx => h x (List.mem_cons_of_mem _ hx)
    have e : Str.join "" (y :: z :: r) = y ++ "" ++ Str.join "" (z :: r) := rfl
    rw [e]
    refine ⟨((h y List.mem_cons_self).app Let.empty).app ih.1, ?_⟩
    rw [len_app, len_app, ih.2, show (Str.ofString "").length = 0 by decide +kernel]
    show y.length + 0 + _ = (y.length :: (z :: r).map (·.length)).sum
    rw [List.sum_cons]
    rfl
theorem join_one {ys : List Str} {n : Nat} (hl : ys.length = n) (h : ∀ y ∈ ys, Let y ∧ y.length = 1) : Let (Txt.join "" ys) ∧ (Txt.join "" ys).length = n ∧ (ys.map (·.length)).sum = n := by
  have j := join_let ys fun y hy => (h y hy).1
  have e : (ys.map (·.length)).sum = ys.length := by
    clear j hl
    induction ys with
    | nil => rfl
    | cons y r ih => rw [List.map_cons, List.sum_cons, ih fun x hx => h x (List.mem_cons_of_mem _ hx), (h y List.mem_cons_self).2, List.length_cons]; omega
  rw [TL.join_eq]
  exact ⟨j.1, by rw [j.2, e, hl], by rw [e, hl]⟩
theorem ne_of_len {z : Str} (h : 0 < z.length) : ¬ z = "" := fun e => by
  subst e
  exact absurd h (by decide +revert)
theorem len_of_ne {z : Str} (h : ¬ z = "") : 0 < z.length := by
  rcases Nat.eq_zero_or_pos z.length with e | e
  · exfalso
    refine h ?_
    have : z.cps = #[] := Array.eq_empty_of_size_eq_zero e
    cases z
    simp only at this
    subst this
    decide +kernel
  · exact e
/-- a word: some letters, at least one, at most n -/
structure Wd (n : Int) (z : Str) : Prop where
  ok : Let z
  l0 : 1 ≤ z.length
  l1 : (z.length : Int) ≤ n
theorem Wd.mono {n m : Int} {z : Str} (h : Wd n z) (k : n ≤ m) : Wd m z := ⟨h.ok, h.l0, Int.le_trans h.l1 k⟩
theorem Wd.line {n : Int} {z : Str} (h : Wd n z) (k : n ≤ 1000000) : z.length ≤ sizeLine := by
  have := h.l1
  rw [sizeLine_eq]
  omega
end Lt
namespace W
open PySem PySem.Spec PyProof.Rows L2
/-! ### the tape, books -/
def Tape (H : Hp) (t c : Addr) : Prop := ∃ (ns : List Int) (x y z u : Int), t ≠ c ∧ H t = some (.lst [.ref c, .int x, .int y, .int z, .int u]) ∧ H c = some (.lst (ns.map V.int)) ∧ 0 ≤ x ∧ x ≤ ns.length ∧ 0 ≤ z ∧ z < 2147483647
theorem Tape.same {H H' : Hp} {t c : Addr} (h : Tape H t c) (s : Same H H') : Tape H' t c := by
  obtain ⟨ns, x, y, z, u, n, h1, h2, r⟩ := h
  exact ⟨ns, x, y, z, u, n, s _ _ h1, s _ _ h2, r⟩
theorem Tape.off {H H' : Hp} {t c l : Addr} (h : Tape H t c) (h1 : l ≠ t) (h2 : l ≠ c) (e : ∀ b, b ≠ l → H' b = H b) : Tape H' t c := by
  obtain ⟨ns, x, y, z, u, n, g1, g2, r⟩ := h
  exact ⟨ns, x, y, z, u, n, by rw [e t h1.symm]; exact g1, by rw [e c h2.symm]; exact g2, r⟩
theorem Tape.new {H : Hp} {t c l : Addr} (h : Tape H t c) (n : H l = none) : l ≠ t ∧ l ≠ c := by
  obtain ⟨ns, x, y, z, u, _, g1, g2, r⟩ := h
  exact ⟨(ne_of_none g1 n).symm, (ne_of_none g2 n).symm⟩
theorem _root_.Rd.tape_same {H H' : Hp} {t c : Addr} (s : Same H H') (h : Tape H t c) : Tape H' t c := h.same s
theorem _root_.Rd.ntT {H : Hp} {t c l : Addr} (n : H l = none) (h : Tape H t c) : l ≠ t := (h.new n).1
theorem _root_.Rd.ntT' {H : Hp} {t c l : Addr} (n : H l = none) (h : Tape H t c) : l ≠ c := (h.new n).2
/-- some watches: no two alike, at most twelve, each of some letters -/
structure Watches (ws : List Str) : Prop where
  nd : ws.Nodup
  l1 : ws.length ≤ 12
  ok : ∀ z ∈ ws, Lt.Wd 12 z
/-- a book of the watches ws stands at b -/
def BookAt (C : Addr) (H : Hp) (b : Addr) (ws : List Str) : Prop := ∃ dx t, H b = some (.ins C dx [("watches", .ref t)]) ∧ H t = some (.tup (ws.map V.str))
theorem BookAt.same {C : Addr} {H H' : Hp} {b : Addr} {ws : List Str} (h : BookAt C H b ws) (s : Same H H') : BookAt C H' b ws := let ⟨dx, t, h1, h2⟩ := h; ⟨dx, t, s _ _ h1, s _ _ h2⟩
theorem BookAt.but {C t c : Addr} {H H' : Hp} {b : Addr} {ws : List Str} (h : BookAt C H b ws) (tp : Tape H t c) (s : Rd.But t H H') : BookAt C H' b ws := by
  obtain ⟨dx, q, h1, h2⟩ := h
  obtain ⟨ns, x, y, z, u, _, g1, g2, r⟩ := tp
  exact ⟨dx, q, s _ _ (ne_of h1 g1 (fun e => nomatch e)) h1, s _ _ (ne_of h2 g1 (fun e => nomatch e)) h2⟩
theorem snoc_nodup {α : Type} {ws : List α} {y : α} (nd : ws.Nodup) (q : ¬ y ∈ ws) : (ws ++ [y]).Nodup := by
  rw [List.nodup_append]
  exact ⟨nd, by simp, fun x hx z hz e => q (by simp at hz; rw [← hz, ← e]; exact hx)⟩
theorem _root_.Rd.book_same {C : Addr} {H H' : Hp} {b : Addr} {ws : List Str} (s : Same H H') (h : BookAt C H b ws) : BookAt C H' b ws := h.same s
theorem _root_.Rd.book_but {C t c : Addr} {H H' : Hp} {b : Addr} {ws : List Str} (s : Rd.But t H H') (tp : Tape H t c) (h : BookAt C H b ws) : BookAt C H' b ws := h.but tp s
end W
/-! ### what is kept, for the search by hypotheses -/
namespace Rd
open PySem PySem.Spec PyProof.Rows L2
variable {H H' : Hp} {K : PySem.W.Frag}
theorem neN {H : Hp} {a b : Addr} {o : HO} (h' : H b = none) (h : H a = some o) : a ≠ b := ne_of_none h h'
theorem neN' {H : Hp} {a b : Addr} {o : HO} (h' : H b = none) (h : H a = some o) : b ≠ a := (ne_of_none h h').symm
theorem same_tr {H H1 H2 : Hp} (b : Same H1 H2) (a : Same H H1) : Same H H2 := a.trans b
theorem but_tr {t : Addr} {H H1 H2 : Hp} (b : But t H1 H2) (a : But t H H1) : But t H H2 := a.trans b
theorem but_sm {t : Addr} {H H1 H2 : Hp} (b : Same H1 H2) (a : But t H H1) : But t H H2 := a.same b
theorem same_of2 {l : Addr} {H0 H H' : Hp} (off : ∀ b, b ≠ l → H' b = H b) (n : H0 l = none) (s : Same H0 H) : Same H0 H' := fun b o e => by rw [off b (ne_of_none e n)]; exact s b o e
theorem but_of2 {t l : Addr} {H0 H H' : Hp} (off : ∀ b, b ≠ l → H' b = H b) (n : H0 l = none) (s : But t H0 H) : But t H0 H' := fun b o h e => by rw [off b (ne_of_none e n)]; exact s b o h e
theorem at_same {a : Addr} {o : HO} (s : Same H H') (e : H a = some o) : H' a = some o := s a o e
theorem at_but {t a : Addr} {o : HO} (b : But t H H') (n : a ≠ t) (e : H a = some o) : H' a = some o := b a o n e
theorem at_off {l a : Addr} {o : HO} (off : ∀ b, b ≠ l → H' b = H b) (n : a ≠ l) (e : H a = some o) : H' a = some o := by rw [off a n]; exact e
theorem same_off {l : Addr} {H0 : Hp} (s : Same H0 H) (n : H0 l = none) (off : ∀ b, b ≠ l → H' b = H b) : Same H0 H' := fun b o e => by rw [off b (ne_of_none e n)]; exact s b o e
theorem but_off' {t l : Addr} {H0 : Hp} (s : But t H0 H) (n : H0 l = none) (off : ∀ b, b ≠ l → H' b = H b) : But t H0 H' := fun b o h e => by rw [off b (ne_of_none e n)]; exact s b o h e
theorem lenS {p : Addr} {ys : List Str} {H : Hp} {Q : VK} (hp : SqL K H p (ys.map V.str) ∨ SqT K H p (ys.map V.str)) (h : Q (.int (ys.length : Nat)) H) : nLen K [.ref p] H Q := ⟨p, _, rfl, hp, by rw [List.length_map]; exact h⟩
theorem lenI {p : Addr} {ys : List Int} {H : Hp} {Q : VK} (hp : SqL K H p (ys.map V.int) ∨ SqT K H p (ys.map V.int)) (h : Q (.int (ys.length : Nat)) H) : nLen K [.ref p] H Q := ⟨p, _, rfl, hp, by rw [List.length_map]; exact h⟩
theorem lenR {p : Addr} {ys : List Addr} {H : Hp} {Q : VK} (hp : SqL K H p (ys.map V.ref) ∨ SqT K H p (ys.map V.ref)) (h : Q (.int (ys.length : Nat)) H) : nLen K [.ref p] H Q := ⟨p, _, rfl, hp, by rw [List.length_map]; exact h⟩
end Rd

/-! Plain law: spots of a word, joined by watches that occur. -/
namespace Mw
open PySem PySem.Spec PyProof.Rows L2
/-- led on from x -/
inductive Star (R : Nat → Nat → Prop) (x : Nat) : Nat → Prop where
  | refl : Star R x x
  | step {y z : Nat} (h : Star R x y) (r : R y z) : Star R x z
theorem Star.one {R : Nat → Nat → Prop} {x y : Nat} (r : R x y) : Star R x y := .step .refl r
theorem Star.trans {R : Nat → Nat → Prop} {x y z : Nat} (a : Star R x y) (b : Star R y z) : Star R x z := by
  induction b with
  | refl => exact a
  | step _ r ih => exact .step ih r
theorem Star.symm {R : Nat → Nat → Prop} (s : ∀ x y, R x y → R y x) {x y : Nat} (a : Star R x y) : Star R y x := by
  induction a with
  | refl => exact .refl
  | step _ r ih => exact (Star.one (s _ _ r)).trans ih
theorem Star.mono {R S : Nat → Nat → Prop} (s : ∀ x y, R x y → S x y) {x y : Nat} (a : Star R x y) : Star S x y := by
  induction a with
  | refl => exact .refl
  | step _ r ih => exact .step ih (s _ _ r)
theorem Star.iff {R S : Nat → Nat → Prop} (s : ∀ x y, R x y ↔ S x y) {x y : Nat} : Star R x y ↔ Star S x y := ⟨Star.mono fun x y => (s x y).mp, Star.mono fun x y => (s x y).mpr⟩
/-- W occurs in z from s -/
def Occ (W z : Str) (s : Nat) : Prop := s + W.length ≤ z.length ∧ cutS z (some (s : Int)) (some ((s : Int) + (W.length : Int))) = W
/-- two spots joined by W, W from a spot below m -/
def EdgeB (W z : Str) (m : Nat) (i j : Nat) : Prop := (i < m ∧ Occ W z i ∧ j = i + W.length) ∨ (j < m ∧ Occ W z j ∧ i = j + W.length)
def Edge (W z : Str) (i j : Nat) : Prop := (Occ W z i ∧ j = i + W.length) ∨ (Occ W z j ∧ i = j + W.length)
def Adj (ws : List Str) (z : Str) (i j : Nat) : Prop := ∃ W ∈ ws, Edge W z i j
def AdjB (ws : List Str) (W z : Str) (m : Nat) (i j : Nat) : Prop := Adj ws z i j ∨ EdgeB W z m i j
/-- the watches tell the word -/
def Told (ws : List Str) (z : Str) : Prop := Star (Adj ws z) 0 z.length
theorem Edge.symm {W z : Str} {i j : Nat} (h : Edge W z i j) : Edge W z j i := h.elim .inr .inl
theorem Adj.symm {ws : List Str} {z : Str} (i j : Nat) (h : Adj ws z i j) : Adj ws z j i := let ⟨W, m, e⟩ := h; ⟨W, m, e.symm⟩
theorem EdgeB.symm {W z : Str} {m i j : Nat} (h : EdgeB W z m i j) : EdgeB W z m j i := h.elim .inr .inl
theorem AdjB.symm {ws : List Str} {W z : Str} {m : Nat} (i j : Nat) (h : AdjB ws W z m i j) : AdjB ws W z m j i := h.elim (fun h => .inl (Adj.symm _ _ h)) fun h => .inr h.symm
theorem Adj.le {ws : List Str} {z : Str} {i j : Nat} (h : Adj ws z i j) : i ≤ z.length ∧ j ≤ z.length := by
  obtain ⟨W, _, ⟨o, e⟩ | ⟨o, e⟩⟩ := h <;> have := o.1 <;> omega
theorem adj_nil {z : Str} {i j : Nat} : ¬ Adj [] z i j := fun ⟨_, h, _⟩ => by simp at h
theorem adjB_zero {ws : List Str} {W z : Str} {i j : Nat} : AdjB ws W z 0 i j ↔ Adj ws z i j := ⟨fun h => h.elim id fun h => by rcases h with ⟨h, _⟩ | ⟨h, _⟩ <;> omega, .inl⟩
theorem adjB_all {ws : List Str} {W z : Str} {i j : Nat} {n : Nat} (hn : (n : Int) = ((z.length : Int) - (W.length : Int) + 1).toNat) : AdjB ws W z n i j ↔ Adj (ws ++ [W]) z i j := by
  constructor
  · rintro (⟨V, h, e⟩ | ⟨_, o, e⟩ | ⟨_, o, e⟩)
    · exact ⟨V, List.mem_append.mpr (.inl h), e⟩
    · exact ⟨W, List.mem_append.mpr (.inr (by simp)), .inl ⟨o, e⟩⟩
    · exact ⟨W, List.mem_append.mpr (.inr (by simp)), .inr ⟨o, e⟩⟩
  · rintro ⟨V, h, e⟩
    rcases List.mem_append.mp h with h | h
    · exact .inl ⟨V, h, e⟩
    · simp at h
      subst h
      rcases e with ⟨o, e⟩ | ⟨o, e⟩
      · exact .inr (.inl ⟨by have := o.1; omega, o, e⟩)
      · exact .inr (.inr ⟨by have := o.1; omega, o, e⟩)
theorem adjB_no {ws : List Str} {W z : Str} {m : Nat} {i j : Nat} (h : ¬ Occ W z m) : AdjB ws W z (m + 1) i j ↔ AdjB ws W z m i j := by
  unfold AdjB EdgeB
  constructor
  · rintro (a | ⟨l, o, e⟩ | ⟨l, o, e⟩)
    · exact .inl a
    · rcases Nat.lt_succ_iff_lt_or_eq.mp l with l | l
      · exact .inr (.inl ⟨l, o, e⟩)
      · exact absurd (l ▸ o) h
    · rcases Nat.lt_succ_iff_lt_or_eq.mp l with l | l
      · exact .inr (.inr ⟨l, o, e⟩)
      · exact absurd (l ▸ o) h
  · rintro (a | ⟨l, o, e⟩ | ⟨l, o, e⟩)
    · exact .inl a
    · exact .inr (.inl ⟨by omega, o, e⟩)
    · exact .inr (.inr ⟨by omega, o, e⟩)
theorem adjB_yes {ws : List Str} {W z : Str} {m : Nat} {i j : Nat} (h : Occ W z m) : AdjB ws W z (m + 1) i j ↔ AdjB ws W z m i j ∨ (i = m ∧ j = m + W.length) ∨ (j = m ∧ i = m + W.length) := by
  unfold AdjB EdgeB
  constructor
  · rintro (a | ⟨l, o, e⟩ | ⟨l, o, e⟩)
    · exact .inl (.inl a)
    · rcases Nat.lt_succ_iff_lt_or_eq.mp l with l | l
      · exact .inl (.inr (.inl ⟨l, o, e⟩))
      · exact .inr (.inl ⟨l, by omega⟩)
    · rcases Nat.lt_succ_iff_lt_or_eq.mp l with l | l
      · exact .inl (.inr (.inr ⟨l, o, e⟩))
      · exact .inr (.inr ⟨l, by omega⟩)
  · rintro ((a | ⟨l, o, e⟩ | ⟨l, o, e⟩) | ⟨l, e⟩ | ⟨l, e⟩)
    · exact .inl a
    · exact .inr (.inl ⟨by omega, o, e⟩)
    · exact .inr (.inr ⟨by omega, o, e⟩)
    · subst l; exact .inr (.inl ⟨by omega, h, e⟩)
    · subst l; exact .inr (.inr ⟨by omega, h, e⟩)
/-! ### no two alike among few -/
theorem nodup_le {α : Type} [DecidableEq α] : ∀ (l m : List α), l.Nodup → (∀ x ∈ l, x ∈ m) → l.length ≤ m.length
  | [], _, _, _ => Nat.zero_le _
  | a :: t, m, nd, h => by
    have ⟨h1, h2⟩ := List.nodup_cons.mp nd
    have ha := h a List.mem_cons_self
    have := nodup_le t (m.erase a) h2 fun x hx => (List.mem_erase_of_ne fun e : x = a => h1 (by rw [← e]; exact hx)).mpr (h x (List.mem_cons_of_mem _ hx))
    rw [List.length_erase_of_mem ha] at this
    have := List.length_pos_of_mem ha
    rw [List.length_cons]
    omega
theorem nodup_range {l : List Int} {n : Nat} (nd : l.Nodup) (h : ∀ x ∈ l, 0 ≤ x ∧ x ≤ n) : l.length ≤ n + 1 := by
  have := nodup_le l ((List.range (n + 1)).map fun i : Nat => (i : Int)) nd fun x hx => by
    have := h x hx
    exact List.mem_map.mpr ⟨x.toNat, List.mem_range.mpr (by omega), by omega⟩
  rw [List.length_map, List.length_range] at this
  exact this
/-! ### marks -/
/-- alike marks are led to one another, and the other way round -/
def Lab (R : Nat → Nat → Prop) (n : Nat) (ms : List Int) : Prop := ms.length = n + 1 ∧ ∀ i j (x y : Int), ms[i]? = some x → ms[j]? = some y → (x = y ↔ Star R i j)
theorem Lab.start {n : Nat} {R : Nat → Nat → Prop} (hR : ∀ i j, ¬ R i j) : Lab R n ((List.range (n + 1)).map fun i : Nat => (i : Int)) := by
  refine ⟨by simp, fun i j x y hx hy => ?_⟩
  have e1 : x = i := by
    rw [List.getElem?_map] at hx
    cases q : (List.range (n + 1))[i]? with
    | none => rw [q] at hx; cases hx
    | some k =>
      rw [q] at hx
      have : i = k := by
        have := List.getElem?_eq_some_iff.mp q
        obtain ⟨h, e⟩ := this
        simpa using e
      subst this
      exact (Option.some.inj hx).symm
  have e2 : y = j := by
    rw [List.getElem?_map] at hy
    cases q : (List.range (n + 1))[j]? with
    | none => rw [q] at hy; cases hy
    | some k =>
      rw [q] at hy
      have : j = k := by
        have := List.getElem?_eq_some_iff.mp q
        obtain ⟨h, e⟩ := this
        simpa using e
      subst this
      exact (Option.some.inj hy).symm
  subst e1 e2
  constructor
  · intro h
    have : i = j := by omega
    exact this ▸ .refl
  · intro h
    cases h with
    | refl => rfl
    | step _ r => exact absurd r (hR _ _)
theorem Lab.iff {R S : Nat → Nat → Prop} {n : Nat} {ms : List Int} (h : Lab R n ms) (s : ∀ x y, R x y ↔ S x y) : Lab S n ms := ⟨h.1, fun i j x y hx hy => (h.2 i j x y hx hy).trans (Star.iff s)⟩
/-- one more pair: alike already -/
theorem Lab.same {R S : Nat → Nat → Prop} {n : Nat} {ms : List Int} (h : Lab R n ms) {a b : Nat} {x : Int} (ha : ms[a]? = some x) (hb : ms[b]? = some x) (sy : ∀ x y, R x y → R y x) (s : ∀ i j, S i j ↔ R i j ∨ (i = a ∧ j = b) ∨ (j = a ∧ i = b)) : Lab S n ms := by
  refine ⟨h.1, fun i j u v hu hv => (h.2 i j u v hu hv).trans ⟨Star.mono fun i j r => (s i j).mpr (.inl r), fun q => ?_⟩⟩
  have ab : Star R a b := (h.2 a b x x ha hb).mp rfl
  clear hv
  induction q with
  | refl => exact .refl
  | step _ r ih =>
    rcases (s _ _).mp r with r | ⟨rfl, rfl⟩ | ⟨rfl, rfl⟩
    · exact .step ih r
    · exact ih.trans ab
    · exact ih.trans (ab.symm sy)
/-- .. not alike: the one mark gives way to the other -/
theorem Lab.join {R S : Nat → Nat → Prop} {n : Nat} {ms : List Int} (h : Lab R n ms) {a b : Nat} {x y : Int} (ha : ms[a]? = some x) (hb : ms[b]? = some y) (hR : ∀ i j, R i j → i ≤ n ∧ j ≤ n) (sy : ∀ x y, R x y → R y x) (s : ∀ i j, S i j ↔ R i j ∨ (i = a ∧ j = b) ∨ (j = a ∧ i = b)) :
    Lab S n (ms.map fun m => if m = y then x else m) := by
  refine ⟨by rw [List.length_map]; exact h.1, fun i j u v hu hv => ?_⟩
  have get : ∀ {i : Nat} {u : Int}, (ms.map fun m => if m = y then x else m)[i]? = some u → ∃ u0, ms[i]? = some u0 ∧ u = if u0 = y then x else u0 := fun {i u} hu => by
    rw [List.getElem?_map] at hu
    cases q : ms[i]? with
    | none => rw [q] at hu; cases hu
    | some k => rw [q] at hu; exact ⟨k, rfl, (Option.some.inj hu).symm⟩
  obtain ⟨u0, hu0, eu⟩ := get hu
  obtain ⟨v0, hv0, ev⟩ := get hv
  have up : ∀ {i j : Nat}, Star R i j → Star S i j := fun q => q.mono fun i j r => (s i j).mpr (.inl r)
  have ab : Star S a b := .one ((s a b).mpr (.inr (.inl ⟨rfl, rfl⟩)))
  have ba : Star S b a := .one ((s b a).mpr (.inr (.inr ⟨rfl, rfl⟩)))
  constructor
  · intro e
    by_cases c1 : u0 = y
    · have ib : Star S i b := up ((h.2 i b u0 y hu0 hb).mp c1)
      by_cases c2 : v0 = y
      · exact up ((h.2 i j u0 v0 hu0 hv0).mp (c1.trans c2.symm))
      · rw [if_pos c1] at eu
        rw [if_neg c2] at ev
        have aj : Star S a j := up ((h.2 a j x v0 ha hv0).mp (by omega))
        exact (ib.trans ba).trans aj
    · rw [if_neg c1] at eu
      by_cases c2 : v0 = y
      · rw [if_pos c2] at ev
        have bj : Star S b j := up ((h.2 b j y v0 hb hv0).mp c2.symm)
        have ia : Star S i a := up ((h.2 i a u0 x hu0 ha).mp (by omega))
        exact (ia.trans ab).trans bj
      · rw [if_neg c2] at ev
        exact up ((h.2 i j u0 v0 hu0 hv0).mp (by omega))
  · intro q
    have la : a ≤ n := by have := (List.getElem?_eq_some_iff.mp ha).1; have := h.1; omega
    have lb : b ≤ n := by have := (List.getElem?_eq_some_iff.mp hb).1; have := h.1; omega
    -- every spot on the way has its mark
    have key : ∀ {k : Nat}, Star S i k → ∀ w0 : Int, ms[k]? = some w0 → (if u0 = y then x else u0) = if w0 = y then x else w0 := by
      intro k q
      induction q with
      | refl =>
        intro w0 hw
        rw [hu0] at hw
        cases hw
        rfl
      | @step k l _ r ih =>
        intro w0 hw
        have inR : ∀ m : Nat, m ≤ n → ∃ m0, ms[m]? = some m0 := fun m hm => ⟨_, List.getElem?_eq_getElem (by have := h.1; omega)⟩
        rcases (s _ _).mp r with r | ⟨rfl, rfl⟩ | ⟨rfl, rfl⟩
        · obtain ⟨k0, hk⟩ := inR k (hR _ _ r).1
          rw [ih k0 hk, (h.2 k l k0 w0 hk hw).mpr (.one r)]
        · rw [ih x ha]
          rw [hb] at hw
          cases hw
          rw [if_pos rfl]
          split <;> rfl
        · rw [ih y hb]
          rw [ha] at hw
          cases hw
          rw [if_pos rfl]
          split <;> rfl
    rw [eu, ev]
    exact key q v0 hv0
end Mw

/-! Plain law: distances, the least of the shortest ways. -/
namespace Mz
open PySem PySem.Spec PyProof.Rows L2
/-- k steps from x to y -/
def Steps (A : Nat → Nat → Prop) : Nat → Nat → Nat → Prop
  | 0, x, y => x = y
  | k + 1, x, z => ∃ y, Steps A k x y ∧ A y z
/-- k steps and no fewer -/
def Dist (A : Nat → Nat → Prop) (x y k : Nat) : Prop := Steps A k x y ∧ ∀ j, j < k → ¬ Steps A j x y
variable {A : Nat → Nat → Prop}
theorem Steps.trans : ∀ {k j x y z : Nat}, Steps A j x y → Steps A k y z → Steps A (j + k) x z
  | 0, j, x, y, z, a, b => by cases b; exact a
  | k + 1, j, x, y, z, a, ⟨u, b, r⟩ => ⟨u, Steps.trans a b, r⟩
theorem Steps.one {x y : Nat} (r : A x y) : Steps A 1 x y := ⟨x, rfl, r⟩
theorem Steps.cons {k x y z : Nat} (r : A x y) (b : Steps A k y z) : Steps A (k + 1) x z := by
  have := Steps.trans (Steps.one r) b
  rwa [Nat.add_comm] at this
theorem Steps.uncons : ∀ {k x z : Nat}, Steps A (k + 1) x z → ∃ y, A x y ∧ Steps A k y z
  | 0, x, z, ⟨y, e, r⟩ => by cases e; exact ⟨z, r, rfl⟩
  | k + 1, x, z, ⟨y, s, r⟩ => let ⟨u, a, b⟩ := Steps.uncons s; ⟨u, a, y, b, r⟩
theorem Steps.symm (sy : ∀ x y, A x y → A y x) : ∀ {k x y : Nat}, Steps A k x y → Steps A k y x
  | 0, _, _, e => Eq.symm e
  | k + 1, x, z, ⟨y, s, r⟩ => Steps.cons (sy _ _ r) (Steps.symm sy s)
theorem Dist.inj {x y k j : Nat} (a : Dist A x y k) (b : Dist A x y j) : k = j := by
  rcases Nat.lt_trichotomy k j with h | h | h
  · exact absurd a.1 (b.2 k h)
  · exact h
  · exact absurd b.1 (a.2 j h)
theorem Steps.dist {x y : Nat} : ∀ {k : Nat}, Steps A k x y → ∃ d, d ≤ k ∧ Dist A x y d := by
  intro k
  induction k using Nat.strongRecOn with
  | _ k ih =>
    intro h
    by_cases c : ∃ j, j < k ∧ Steps A j x y
    · obtain ⟨j, hj, s⟩ := c
      obtain ⟨d, h1, h2⟩ := ih j hj s
      exact ⟨d, by omega, h2⟩
    · exact ⟨k, Nat.le_refl _, h, fun j hj s => c ⟨j, hj, s⟩⟩
theorem Dist.symm (sy : ∀ x y, A x y → A y x) {x y k : Nat} (h : Dist A x y k) : Dist A y x k := ⟨h.1.symm sy, fun j hj s => h.2 j hj (s.symm sy)⟩
theorem Dist.zero {x : Nat} : Dist A x x 0 := ⟨rfl, fun j h => by omega⟩
theorem Dist.zero_iff {x y : Nat} : Dist A x y 0 ↔ x = y := ⟨fun h => h.1, fun h => h ▸ Dist.zero⟩
/-- one step on from a spot k away, not nearer: k + 1 away -/
theorem Dist.next {x y z k : Nat} (h : Dist A x y k) (r : A y z) (no : ∀ j, j ≤ k → ¬ Dist A x z j) : Dist A x z (k + 1) :=
  ⟨⟨y, h.1, r⟩, fun j hj s => let ⟨d, h1, h2⟩ := s.dist; no d (by omega) h2⟩
/-- the spot ahead on a shortest way -/
theorem Dist.pred {x z k : Nat} (h : Dist A x z (k + 1)) : ∃ y, Dist A x y k ∧ A y z := by
  obtain ⟨y, s, r⟩ := h.1
  exact ⟨y, ⟨s, fun j hj s' => h.2 (j + 1) (by omega) ⟨y, s', r⟩⟩, r⟩
theorem Dist.all {x : Nat} : ∀ {k z : Nat}, Dist A x z k → ∀ j, j ≤ k → ∃ y, Dist A x y j
  | 0, z, h, j, hj => ⟨z, by rw [show j = 0 by omega]; exact h⟩
  | k + 1, z, h, j, hj => by
    by_cases c : j = k + 1
    · exact ⟨z, by rw [c]; exact h⟩
    · obtain ⟨y, hy, _⟩ := h.pred
      exact hy.all j (by omega)
theorem Steps.le {n : Nat} (hA : ∀ i j, A i j → j ≤ n) : ∀ {k x y : Nat}, x ≤ n → Steps A k x y → y ≤ n
  | 0, _, _, h, e => by cases e; exact h
  | _ + 1, _, _, _, ⟨_, _, r⟩ => hA _ _ r
/-- a shortest way within the spots 0 .. n has at most n steps -/
theorem Dist.le {n x z k : Nat} (hA : ∀ i j, A i j → j ≤ n) (hx : x ≤ n) (h : Dist A x z k) : k ≤ n := by
  have ex : ∀ m, m ≤ k + 1 → ∃ l : List Int, l.length = m ∧ l.Nodup ∧ ∀ v ∈ l, 0 ≤ v ∧ v ≤ n ∧ ∃ j, j < m ∧ Dist A x v.toNat j := by
    intro m
    induction m with
    | zero => exact fun _ => ⟨[], rfl, .nil, fun v h => by simp at h⟩
    | succ m ih =>
      intro hm
      obtain ⟨l, h1, h2, h3⟩ := ih (by omega)
      obtain ⟨y, hy⟩ := h.all m (by omega)
      have yl : y ≤ n := Steps.le hA hx hy.1
      refine ⟨(y : Int) :: l, by rw [List.length_cons, h1], List.nodup_cons.mpr ⟨fun q => ?_, h2⟩, fun v hv => ?_⟩
      · obtain ⟨_, _, j, hj, d⟩ := h3 _ q
        have := d.inj hy
        omega
      · rcases List.mem_cons.mp hv with rfl | hv
        · exact ⟨by omega, by omega, m, by omega, hy⟩
        · obtain ⟨a, b, j, hj, d⟩ := h3 v hv
          exact ⟨a, b, j, by omega, d⟩
  obtain ⟨l, h1, h2, h3⟩ := ex (k + 1) (Nat.le_refl _)
  have := Mw.nodup_range h2 fun v hv => ⟨(h3 v hv).1, (h3 v hv).2.1⟩
  omega
theorem star_steps {x y : Nat} : Mw.Star A x y ↔ ∃ k, Steps A k x y := by
  constructor
  · intro h
    induction h with
    | refl => exact ⟨0, rfl⟩
    | step _ r ih => let ⟨k, s⟩ := ih; exact ⟨k + 1, _, s, r⟩
  · rintro ⟨k, s⟩
    induction k generalizing y with
    | zero => cases s; exact .refl
    | succ k ih => let ⟨u, s, r⟩ := s; exact .step (ih s) r
theorem star_dist {x y : Nat} : Mw.Star A x y ↔ ∃ k, Dist A x y k := star_steps.trans ⟨fun ⟨_, s⟩ => let ⟨d, _, h⟩ := s.dist; ⟨d, h⟩, fun ⟨k, h⟩ => ⟨k, h.1⟩⟩
/-- the least of the shortest ways from x to n, step by step -/
inductive Gr (A : Nat → Nat → Prop) (n : Nat) : Nat → List Nat → Prop where
  | stop : Gr A n n [n]
  | step {x w d : Nat} {P : List Nat} (hx : Dist A x n (d + 1)) (r : A x w) (hw : Dist A w n d) (least : ∀ v, A x v → Dist A v n d → w ≤ v) (h : Gr A n w P) : Gr A n x (x :: P)
theorem Gr.inj {n : Nat} : ∀ {P P' : List Nat} {x : Nat}, Gr A n x P → Gr A n x P' → P = P' := by
  intro P P' x a
  induction a generalizing P' with
  | stop =>
    intro b
    cases b with
    | stop => rfl
    | step hx _ _ _ _ => have := hx.inj Dist.zero; omega
  | @step x w d P hx r hw least h ih =>
    intro b
    cases b with
    | stop => have := hx.inj Dist.zero; omega
    | @step _ w' d' P' hx' r' hw' least' h' =>
      have e : d = d' := by have := hx.inj hx'; omega
      subst e
      have : w = w' := by
        have := least w' r' hw'
        have := least' w r hw
        omega
      subst this
      rw [ih h']
/-- a least one is there -/
theorem least_of {P : Nat → Prop} {m : Nat} (h : P m) : ∃ w, P w ∧ ∀ v, P v → w ≤ v := by
  induction m using Nat.strongRecOn with
  | _ m ih =>
    by_cases c : ∃ v, v < m ∧ P v
    · obtain ⟨v, l, p⟩ := c
      exact ih v l p
    · exact ⟨m, h, fun v p => by
        rcases Nat.lt_or_ge v m with l | l
        · exact absurd ⟨v, l, p⟩ c
        · exact l⟩
/-! ### the order of ways -/
/-- not after, as tuples of one length are ordered -/
def lle : List Nat → List Nat → Prop
  | [], _ => True
  | _ :: _, [] => False
  | a :: p, b :: q => a < b ∨ (a = b ∧ lle p q)
theorem lle.refl : ∀ p, lle p p
  | [] => trivial
  | a :: p => .inr ⟨rfl, lle.refl p⟩
theorem lle.trans : ∀ {p q r}, lle p q → lle q r → lle p r
  | [], _, _, _, _ => trivial
  | _ :: _, [], _, h, _ => h.elim
  | _ :: _, _ :: _, [], _, h => h.elim
  | a :: p, b :: q, c :: r, h, k => by
    rcases h with h | ⟨rfl, h⟩
    · rcases k with k | ⟨rfl, k⟩
      · exact .inl (by omega)
      · exact .inl h
    · rcases k with k | ⟨rfl, k⟩
      · exact .inl k
      · exact .inr ⟨rfl, lle.trans h k⟩
theorem lle.total : ∀ p q, lle p q ∨ lle q p
  | [], _ => .inl trivial
  | _ :: _, [] => .inr trivial
  | a :: p, b :: q => by
    rcases Nat.lt_trichotomy a b with h | h | h
    · exact .inl (.inl h)
    · rcases lle.total p q with k | k
      · exact .inl (.inr ⟨h, k⟩)
      · exact .inr (.inr ⟨h.symm, k⟩)
    · exact .inr (.inl h)
theorem lle.anti : ∀ {p q}, lle p q → lle q p → p = q
  | [], [], _, _ => rfl
  | [], _ :: _, _, h => h.elim
  | _ :: _, [], h, _ => h.elim
  | a :: p, b :: q, h, k => by
    rcases h with h | ⟨rfl, h⟩
    · rcases k with k | ⟨k, _⟩ <;> omega
    · rcases k with k | ⟨_, k⟩
      · omega
      · rw [lle.anti h k]
theorem lle.snoc {v : Nat} : ∀ {p q : List Nat}, p.length = q.length → lle p q → lle (p ++ [v]) (q ++ [v])
  | [], [], _, _ => .inr ⟨rfl, trivial⟩
  | [], _ :: _, h, _ => by simp at h
  | _ :: _, [], h, _ => by simp at h
  | a :: p, b :: q, h, k => k.elim .inl fun ⟨e, k⟩ => .inr ⟨e, lle.snoc (by simpa using h) k⟩
theorem lle.unpre {q r : List Nat} : ∀ {p : List Nat}, lle (p ++ q) (p ++ r) → lle q r
  | [], h => h
  | a :: p, h => h.elim (fun h => by omega) fun ⟨_, h⟩ => lle.unpre (p := p) h
/-- a way from x to y -/
inductive Way (A : Nat → Nat → Prop) : Nat → Nat → List Nat → Prop where
  | one (x : Nat) : Way A x x [x]
  | cons {x w y : Nat} {P : List Nat} (r : A x w) (h : Way A w y P) : Way A x y (x :: P)
theorem Way.head {x y : Nat} {P : List Nat} (h : Way A x y P) : ∃ t, P = x :: t := by cases h <;> exact ⟨_, rfl⟩
theorem Way.snoc {x y z : Nat} {P : List Nat} (h : Way A x y P) (r : A y z) : Way A x z (P ++ [z]) := by
  induction h with
  | one x => exact .cons r (.one z)
  | cons r' _ ih => exact .cons r' (ih r)
theorem Way.unsnoc {x z : Nat} {P : List Nat} (h : Way A x z P) : P = [x] ∧ x = z ∨ ∃ y P', P = P' ++ [z] ∧ Way A x y P' ∧ A y z := by
  induction h with
  | one x => exact .inl ⟨rfl, rfl⟩
  | @cons x w z P r h ih =>
    rcases ih with ⟨rfl, rfl⟩ | ⟨y, P', rfl, h', r'⟩
    · exact .inr ⟨x, [x], rfl, .one x, r⟩
    · exact .inr ⟨y, x :: P', rfl, .cons r h', r'⟩
theorem Way.steps {x y : Nat} {P : List Nat} (h : Way A x y P) : ∃ k, P.length = k + 1 ∧ Steps A k x y := by
  induction h with
  | one x => exact ⟨0, rfl, rfl⟩
  | cons r _ ih => obtain ⟨k, e, s⟩ := ih; exact ⟨k + 1, by rw [List.length_cons, e], Steps.cons r s⟩
theorem Steps.way : ∀ {k x y : Nat}, Steps A k x y → ∃ P, Way A x y P ∧ P.length = k + 1
  | 0, x, y, e => by cases e; exact ⟨[x], .one x, rfl⟩
  | k + 1, x, z, ⟨y, s, r⟩ => let ⟨P, w, l⟩ := Steps.way s; ⟨P ++ [z], w.snoc r, by rw [List.length_append, l]; rfl⟩
/-- the least of the shortest ways -/
structure Best (A : Nat → Nat → Prop) (x y d : Nat) (P : List Nat) : Prop where
  way : Way A x y P
  ln : P.length = d + 1
  least : ∀ P', Way A x y P' → P'.length = d + 1 → lle P P'
theorem Best.tail {n x w d : Nat} {P : List Nat} (h : Best A x n (d + 1) (x :: P)) (r : A x w) (hw : Way A w n P) : Best A w n d P :=
  ⟨hw, by simpa using h.ln, fun P' h1 h2 => (h.least (x :: P') (.cons r h1) (by rw [List.length_cons, h2])).elim (fun q => by omega) fun q => q.2⟩
/-- .. is found step by step -/
theorem Best.gr {n : Nat} : ∀ {P : List Nat} {x d : Nat}, Dist A x n d → Best A x n d P → Gr A n x P
  | [], x, d, _, h => by have := h.ln; simp at this
  | [a], x, d, hd, h => by
    have l := h.ln
    have hw := h.way
    cases hw with
    | one => exact .stop
    | cons _ q => cases q
  | a :: b :: P, x, d, hd, h => by
    have l := h.ln
    have hw := h.way
    cases hw with
    | @cons _ w _ _ r q =>
      obtain ⟨t, e⟩ := q.head
      cases e
      obtain ⟨k, e1, s⟩ := q.steps
      cases d with
      | zero => simp at l
      | succ d =>
        have ek : k = d := by
          simp only [List.length_cons] at l e1
          omega
        subst ek
        have dw : Dist A b n k := ⟨s, fun j hj s' => hd.2 (j + 1) (by omega) (Steps.cons r s')⟩
        refine .step hd r dw (fun v rv dv => ?_) (Best.gr dw (h.tail r q))
        obtain ⟨P', w', l'⟩ := dv.1.way
        obtain ⟨t', e'⟩ := w'.head
        subst e'
        rcases h.least (a :: v :: t') (.cons rv w') (by rw [List.length_cons, l']) with z | ⟨_, z⟩
        · omega
        · rcases z with z | ⟨z, _⟩ <;> omega
/-- one step on: the least over the spots ahead -/
theorem Best.next {x z d : Nat} {P : List Nat} {y : Nat} (hP : Best A x y d P) (r : A y z)
    (least : ∀ y' P', Best A x y' d P' → A y' z → lle (P ++ [z]) (P' ++ [z])) (ex : ∀ y', Steps A d x y' → A y' z → ∃ P', Best A x y' d P') : Best A x z (d + 1) (P ++ [z]) := by
  refine ⟨hP.way.snoc r, by rw [List.length_append, hP.ln]; rfl, fun P' h1 h2 => ?_⟩
  rcases h1.unsnoc with ⟨rfl, rfl⟩ | ⟨y', Q, rfl, hq, r'⟩
  · simp at h2
  · obtain ⟨k, e, s⟩ := hq.steps
    rw [List.length_append, e] at h2
    have ek : k = d := by simp at h2; omega
    subst ek
    obtain ⟨P2, b2⟩ := ex y' s r'
    exact (least y' P2 b2 r').trans (lle.snoc (by rw [b2.ln, e]) (b2.least Q hq e))
end Mz

/-! Masks: numbers as lots of things. -/
namespace Mb
theorem bit_div (m i : Nat) : (m / 2 ^ i % 2 = 1) ↔ m.testBit i = true := by
  rw [Nat.testBit_eq_decide_div_mod_eq, decide_eq_true_iff]
/-- the things whose bits stand in a mask -/
def chs {α : Type} : List α → Nat → List α
  | [], _ => []
  | x :: xs, m => (if m.testBit 0 = true then [x] else []) ++ chs xs (m / 2)
theorem chs_snoc {α : Type} (x : α) : ∀ (xs : List α) (m : Nat), chs (xs ++ [x]) m = chs xs m ++ (if m.testBit xs.length = true then [x] else [])
  | [], m => by simp [chs]
  | y :: xs, m => by
    show _ ++ chs (xs ++ [x]) (m / 2) = (_ ++ chs xs (m / 2)) ++ _
    rw [chs_snoc x xs (m / 2), List.append_assoc, List.length_cons, Nat.testBit_succ]
theorem chs_take {α : Type} {xs : List α} {i : Nat} {x : α} (h : xs[i]? = some x) (m : Nat) : chs (xs.take (i + 1)) m = chs (xs.take i) m ++ (if m.testBit i = true then [x] else []) := by
  have l := (List.getElem?_eq_some_iff.mp h).1
  have e : xs.take (i + 1) = xs.take i ++ [x] := by rw [List.take_succ, h]; rfl
  rw [e, chs_snoc, List.length_take, Nat.min_eq_left (Nat.le_of_lt l)]
theorem mem_chs {α : Type} {y : α} : ∀ {xs : List α} {m : Nat}, y ∈ chs xs m ↔ ∃ i, xs[i]? = some y ∧ m.testBit i = true
  | [], m => ⟨fun h => (nomatch h), fun ⟨i, h, _⟩ => by simp at h⟩
  | x :: xs, m => by
    show y ∈ _ ++ chs xs (m / 2) ↔ _
    rw [List.mem_append, mem_chs (xs := xs)]
    constructor
    · rintro (h | ⟨i, h, b⟩)
      · split at h
        · exact ⟨0, by rw [List.mem_singleton.mp h]; rfl, by assumption⟩
        · cases h
      · exact ⟨i + 1, by simpa using h, by rw [Nat.testBit_succ]; exact b⟩
    · rintro ⟨i, h, b⟩
      cases i with
      | zero =>
        left
        rw [if_pos b]
        cases h
        exact List.mem_singleton.mpr rfl
      | succ i => exact .inr ⟨i, by simpa using h, by rw [← Nat.testBit_succ]; exact b⟩
theorem chs_sublist {α : Type} : ∀ (xs : List α) (m : Nat), (chs xs m).Sublist xs
  | [], _ => .slnil
  | x :: xs, m => by
    show (_ ++ chs xs (m / 2)).Sublist _
    split
    · exact (chs_sublist xs (m / 2)).cons_cons x
    · exact (chs_sublist xs (m / 2)).cons x
/-- the mask of a property -/
def msk {α : Type} (p : α → Bool) : List α → Nat
  | [] => 0
  | x :: xs => (if p x = true then 1 else 0) + 2 * msk p xs
theorem msk_lt {α : Type} (p : α → Bool) : ∀ xs : List α, msk p xs < 2 ^ xs.length
  | [] => Nat.one_pos
  | x :: xs => by
    have := msk_lt p xs
    show (if p x = true then 1 else 0) + 2 * msk p xs < 2 ^ (xs.length + 1)
    rw [Nat.pow_succ]
    split <;> omega
theorem chs_msk {α : Type} (p : α → Bool) : ∀ xs : List α, chs xs (msk p xs) = xs.filter p
  | [] => rfl
  | x :: xs => by
    have d : ((if p x = true then 1 else 0) + 2 * msk p xs) / 2 = msk p xs := by split <;> omega
    have b : ((if p x = true then 1 else 0) + 2 * msk p xs).testBit 0 = p x := by
      rw [Nat.testBit_zero]
      cases p x
      · rw [if_neg (by decide)]
        simp
      · rw [if_pos rfl]
        simp [Nat.add_mod]
    show (if ((if p x = true then 1 else 0) + 2 * msk p xs).testBit 0 = true then [x] else []) ++ chs xs (((if p x = true then 1 else 0) + 2 * msk p xs) / 2) = _
    rw [d, b, chs_msk p xs]
    cases h : p x
    · rw [List.filter_cons_of_neg (by rw [h]; decide)]
      rfl
    · rw [List.filter_cons_of_pos h]
      rfl
/-! ### a mask within another -/
theorem and_iff {m k : Nat} : m &&& k = k ↔ ∀ i, k.testBit i = true → m.testBit i = true := by
  constructor
  · intro h i b
    rw [← h, Nat.testBit_and, Bool.and_eq_true] at b
    exact b.1
  · intro h
    refine Nat.eq_of_testBit_eq fun i => ?_
    rw [Nat.testBit_and]
    cases b : k.testBit i
    · rw [Bool.and_false]
    · rw [h i b]
      rfl
theorem and_trans {a b c : Nat} (h : b &&& a = a) (k : c &&& b = b) : c &&& a = a := and_iff.mpr fun i t => and_iff.mp k i (and_iff.mp h i t)
theorem and_anti {a b : Nat} (h : b &&& a = a) (k : a &&& b = b) : a = b := by rw [← h, Nat.and_comm, k]
theorem bit_lt {n m i : Nat} (h : m < 2 ^ n) (b : m.testBit i = true) : i < n := by
  rcases Nat.lt_or_ge i n with c | c
  · exact c
  · rw [Nat.testBit_lt_two_pow (Nat.lt_of_lt_of_le h (Nat.pow_le_pow_right (by decide) c))] at b
    cases b
theorem chs_all {α : Type} {xs : List α} (nd : xs.Nodup) {k m : Nat} (hk : k < 2 ^ xs.length) : (∀ y ∈ chs xs k, y ∈ chs xs m) ↔ m &&& k = k := by
  rw [and_iff]
  constructor
  · intro h i b
    have l := bit_lt hk b
    obtain ⟨j, e, c⟩ := mem_chs.mp (h xs[i] (mem_chs.mpr ⟨i, List.getElem?_eq_getElem l, b⟩))
    have lj := (List.getElem?_eq_some_iff.mp e).1
    have ej := (List.getElem?_eq_some_iff.mp e).2
    have : i = j := by
      rcases Nat.lt_trichotomy i j with q | q | q
      · exact absurd ej.symm ((List.pairwise_iff_getElem.mp (List.nodup_iff_pairwise_ne.mp nd)) i j l lj q)
      · exact q
      · exact absurd ej ((List.pairwise_iff_getElem.mp (List.nodup_iff_pairwise_ne.mp nd)) j i lj l q)
    rw [this]
    exact c
  · intro h y hy
    obtain ⟨i, e, b⟩ := mem_chs.mp hy
    exact mem_chs.mpr ⟨i, e, h i b⟩
/-! ### the number of bits -/
def pc : Nat → Nat → Nat
  | 0, _ => 0
  | n + 1, m => pc n m + m / 2 ^ n % 2
theorem pc_le : ∀ n m, pc n m ≤ n
  | 0, _ => Nat.le_refl _
  | n + 1, m => by
    have := pc_le n m
    show pc n m + m / 2 ^ n % 2 ≤ n + 1
    omega
theorem bit_le {m k i : Nat} (h : m &&& k = k) : k / 2 ^ i % 2 ≤ m / 2 ^ i % 2 := by
  rcases Nat.eq_zero_or_pos (k / 2 ^ i % 2) with e | e
  · omega
  · have b := (bit_div k i).mp (by omega)
    have := (bit_div m i).mpr (and_iff.mp h i b)
    omega
theorem pc_mono {m k : Nat} (h : m &&& k = k) : ∀ n, pc n k ≤ pc n m
  | 0 => Nat.le_refl _
  | n + 1 => Nat.add_le_add (pc_mono h n) (bit_le h)
theorem pc_eq {m k : Nat} (h : m &&& k = k) : ∀ n, pc n k = pc n m → ∀ i, i < n → k.testBit i = m.testBit i
  | 0, _, i, l => absurd l (Nat.not_lt_zero _)
  | n + 1, e, i, l => by
    have e : pc n k + k / 2 ^ n % 2 = pc n m + m / 2 ^ n % 2 := e
    have h1 := pc_mono h n
    have h2 := bit_le (i := n) h
    rcases Nat.lt_succ_iff_lt_or_eq.mp l with c | rfl
    · exact pc_eq h n (by omega) i c
    · rw [Bool.eq_iff_iff, ← bit_div, ← bit_div]
      omega
theorem pc_lt {n m k : Nat} (h : m &&& k = k) (hm : m < 2 ^ n) (hk : k < 2 ^ n) (ne : k ≠ m) : pc n k < pc n m := by
  rcases Nat.lt_or_ge (pc n k) (pc n m) with c | c
  · exact c
  · refine absurd (Nat.eq_of_testBit_eq fun i => ?_) ne
    rcases Nat.lt_or_ge i n with l | l
    · exact pc_eq h n (Nat.le_antisymm (pc_mono h n) c) i l
    · have z : ∀ {a}, a < 2 ^ n → a.testBit i = false := fun ha => Nat.testBit_lt_two_pow (Nat.lt_of_lt_of_le ha (Nat.pow_le_pow_right (by decide) l))
      rw [z hm, z hk]
/-! ### masks by their sizes -/
def sized (n s : Nat) : List Nat := (List.range (2 ^ n)).filter fun m => decide (pc n m = s)
def bySize (n : Nat) : List Nat := (List.range (n + 1)).flatMap (sized n)
theorem mem_sized {n s m : Nat} : m ∈ sized n s ↔ m < 2 ^ n ∧ pc n m = s := by
  unfold sized
  rw [List.mem_filter, List.mem_range, decide_eq_true_iff]
theorem mem_bySize {n m : Nat} : m ∈ bySize n ↔ m < 2 ^ n := by
  unfold bySize
  rw [List.mem_flatMap]
  constructor
  · rintro ⟨s, _, h⟩
    exact (mem_sized.mp h).1
  · intro h
    exact ⟨pc n m, List.mem_range.mpr (Nat.lt_succ_of_le (pc_le n m)), mem_sized.mpr ⟨h, rfl⟩⟩
theorem flat_sorted {n : Nat} : ∀ {ss : List Nat}, ss.Pairwise (· < ·) → (ss.flatMap (sized n)).Pairwise fun a b => pc n a ≤ pc n b
  | [], _ => .nil
  | s :: ss, h => by
    rw [List.flatMap_cons, List.pairwise_append]
    rw [List.pairwise_cons] at h
    refine ⟨?_, flat_sorted h.2, fun a ha b hb => ?_⟩
    · exact List.Pairwise.imp_of_mem (R := fun _ _ => True) (fun {a b} ha hb _ => by rw [(mem_sized.mp ha).2, (mem_sized.mp hb).2]; exact Nat.le_refl _) (List.pairwise_of_forall fun _ _ => trivial)
    · obtain ⟨t, mt, hb⟩ := List.mem_flatMap.mp hb
      rw [(mem_sized.mp ha).2, (mem_sized.mp hb).2]
      exact Nat.le_of_lt (h.1 t mt)
theorem bySize_sorted (n : Nat) : (bySize n).Pairwise fun a b => pc n a ≤ pc n b := flat_sorted List.pairwise_lt_range
theorem flat_nodup {n : Nat} : ∀ {ss : List Nat}, ss.Pairwise (· < ·) → (ss.flatMap (sized n)).Nodup
  | [], _ => .nil
  | s :: ss, h => by
    rw [List.flatMap_cons, List.nodup_append]
    rw [List.pairwise_cons] at h
    refine ⟨(List.nodup_range).filter _, flat_nodup h.2, fun a ha b hb e => ?_⟩
    subst e
    obtain ⟨t, mt, hb⟩ := List.mem_flatMap.mp hb
    have e1 := (mem_sized.mp ha).2
    have e2 := (mem_sized.mp hb).2
    have := h.1 t mt
    omega
theorem bySize_nodup (n : Nat) : (bySize n).Nodup := flat_nodup List.pairwise_lt_range
theorem bySize_perm (n : Nat) : (bySize n).Perm (List.range (2 ^ n)) := by
  refine (List.perm_ext_iff_of_nodup (bySize_nodup n) List.nodup_range).mpr fun m => ?_
  rw [mem_bySize, List.mem_range]
/-! ### the least masks that work -/
def leB (W : Nat → Bool) (n m : Nat) : Bool := W m && (List.range (2 ^ n)).all fun k => !(decide (m &&& k = k) && (!decide (k = m) && W k))
theorem leB_iff {W : Nat → Bool} {n m : Nat} : leB W n m = true ↔ W m = true ∧ ∀ k, k < 2 ^ n → m &&& k = k → k ≠ m → W k = false := by
  unfold leB
  rw [Bool.and_eq_true, List.all_eq_true]
  refine and_congr_right fun _ => ⟨fun h k hk e ne => ?_, fun h k hk => ?_⟩
  · have := h k (List.mem_range.mpr hk)
    rw [decide_eq_true e, decide_eq_false ne] at this
    simpa using this
  · by_cases e : m &&& k = k
    · by_cases ne : k = m
      · rw [decide_eq_true e, decide_eq_true ne]
        rfl
      · rw [decide_eq_true e, decide_eq_false ne, h k (List.mem_range.mp hk) e ne]
        rfl
    · rw [decide_eq_false e]
      rfl
theorem least_in (W : Nat → Bool) (n : Nat) : ∀ (s k : Nat), pc n k ≤ s → k < 2 ^ n → W k = true → ∃ j, j < 2 ^ n ∧ k &&& j = j ∧ leB W n j = true := by
  intro s
  induction s with
  | zero =>
    intro k h hk w
    refine ⟨k, hk, Nat.and_self k, leB_iff.mpr ⟨w, fun j hj e ne => ?_⟩⟩
    have := pc_lt e hk hj ne
    omega
  | succ s ih =>
    intro k h hk w
    by_cases c : ∃ j, j < 2 ^ n ∧ k &&& j = j ∧ j ≠ k ∧ W j = true
    · obtain ⟨j, hj, e, ne, wj⟩ := c
      obtain ⟨i, hi, e2, l⟩ := ih j (by have := pc_lt e hk hj ne; omega) hj wj
      exact ⟨i, hi, and_trans e2 e, l⟩
    · refine ⟨k, hk, Nat.and_self k, leB_iff.mpr ⟨w, fun j hj e ne => ?_⟩⟩
      cases wj : W j
      · rfl
      · exact absurd ⟨j, hj, e, ne, wj⟩ c
/-- what is asked of the next mask -/
theorem least_step {W : Nat → Bool} {n m : Nat} {A B : List Nat} (e : bySize n = A ++ m :: B) : (((A.filter (leB W n)).any fun k => decide (m &&& k = k)) = false ∧ W m = true) ↔ leB W n m = true := by
  have hm : m < 2 ^ n := mem_bySize.mp (by rw [e]; simp)
  have nd := bySize_nodup n
  rw [e, List.nodup_append] at nd
  have nA : m ∉ A := fun h => nd.2.2 m h m (List.mem_cons_self ..) rfl
  constructor
  · rintro ⟨h1, w⟩
    refine leB_iff.mpr ⟨w, fun k hk ek ne => ?_⟩
    cases wk : W k
    · rfl
    · exfalso
      obtain ⟨j, hj, ej, l⟩ := least_in W n _ k (Nat.le_refl _) hk wk
      have em := and_trans ej ek
      have p1 := pc_lt ek hm hk ne
      have p2 := pc_mono ej n
      have jA : j ∈ A := by
        have hj2 := mem_bySize.mpr hj
        rw [e, List.mem_append, List.mem_cons] at hj2
        rcases hj2 with h | rfl | h
        · exact h
        · omega
        · have so := bySize_sorted n
          rw [e, List.pairwise_append, List.pairwise_cons] at so
          have := so.2.1.1 j h
          omega
      rw [List.any_eq_false] at h1
      exact h1 j (List.mem_filter.mpr ⟨jA, l⟩) (decide_eq_true em)
  · intro l
    refine ⟨?_, (leB_iff.mp l).1⟩
    rw [List.any_eq_false]
    intro k hk d
    obtain ⟨kA, lk⟩ := List.mem_filter.mp hk
    have hk2 : k < 2 ^ n := mem_bySize.mp (by rw [e]; exact List.mem_append_left _ kA)
    have := (leB_iff.mp l).2 k hk2 (of_decide_eq_true d) (fun q => nA (q ▸ kA))
    rw [(leB_iff.mp lk).1] at this
    cases this
/-! ### the greatest masks that do not work -/
def grB (W : Nat → Bool) (n m : Nat) : Bool := !W m && (List.range (2 ^ n)).all fun k => !(decide (m &&& k = m) && (!decide (k = m) && !W k))
theorem grB_iff {W : Nat → Bool} {n m : Nat} : grB W n m = true ↔ W m = false ∧ ∀ k, k < 2 ^ n → k &&& m = m → k ≠ m → W k = true := by
  unfold grB
  rw [Bool.and_eq_true, List.all_eq_true, Bool.not_eq_true']
  refine and_congr_right fun _ => ⟨fun h k hk e ne => ?_, fun h k hk => ?_⟩
  · have := h k (List.mem_range.mpr hk)
    rw [decide_eq_true (show m &&& k = m by rw [Nat.and_comm]; exact e), decide_eq_false ne] at this
    simpa using this
  · by_cases e : m &&& k = m
    · by_cases ne : k = m
      · rw [decide_eq_true e, decide_eq_true ne]
        rfl
      · rw [decide_eq_true e, decide_eq_false ne, h k (List.mem_range.mp hk) (by rw [Nat.and_comm]; exact e) ne]
        rfl
    · rw [decide_eq_false e]
      rfl
theorem great_in (W : Nat → Bool) (n : Nat) : ∀ (s k : Nat), n ≤ pc n k + s → k < 2 ^ n → W k = false → ∃ j, j < 2 ^ n ∧ j &&& k = k ∧ grB W n j = true := by
  intro s
  induction s with
  | zero =>
    intro k h hk w
    refine ⟨k, hk, Nat.and_self k, grB_iff.mpr ⟨w, fun j hj e ne => ?_⟩⟩
    have := pc_lt e hj hk (Ne.symm ne)
    have := pc_le n j
    omega
  | succ s ih =>
    intro k h hk w
    by_cases c : ∃ j, j < 2 ^ n ∧ j &&& k = k ∧ j ≠ k ∧ W j = false
    · obtain ⟨j, hj, e, ne, wj⟩ := c
      obtain ⟨i, hi, e2, l⟩ := ih j (by have := pc_lt e hj hk (Ne.symm ne); omega) hj wj
      exact ⟨i, hi, and_trans e e2, l⟩
    · refine ⟨k, hk, Nat.and_self k, grB_iff.mpr ⟨w, fun j hj e ne => ?_⟩⟩
      cases wj : W j
      · exact absurd ⟨j, hj, e, ne, wj⟩ c
      · rfl
theorem great_step {W : Nat → Bool} {n m : Nat} {A B : List Nat} (e : (bySize n).reverse = A ++ m :: B) : (((A.filter (grB W n)).any fun k => decide (m &&& k = m)) = false ∧ W m = false) ↔ grB W n m = true := by
  have mem : ∀ {k}, k ∈ A ++ m :: B ↔ k < 2 ^ n := fun {k} => by rw [← e, List.mem_reverse, mem_bySize]
  have hm : m < 2 ^ n := mem.mp (by simp)
  have nd : (bySize n).reverse.Nodup := (List.reverse_perm (bySize n)).nodup_iff.mpr (bySize_nodup n)
  rw [e, List.nodup_append] at nd
  have nA : m ∉ A := fun h => nd.2.2 m h m (List.mem_cons_self ..) rfl
  constructor
  · rintro ⟨h1, w⟩
    refine grB_iff.mpr ⟨w, fun k hk ek ne => ?_⟩
    cases wk : W k
    · exfalso
      obtain ⟨j, hj, ej, l⟩ := great_in W n _ k (Nat.le_add_left _ _) hk wk
      have em := and_trans ek ej
      have p1 := pc_lt ek hk hm (Ne.symm ne)
      have p2 := pc_mono ej n
      have jA : j ∈ A := by
        have hj2 := mem.mpr hj
        rw [List.mem_append, List.mem_cons] at hj2
        rcases hj2 with h | rfl | h
        · exact h
        · omega
        · have so := List.pairwise_reverse.mpr (bySize_sorted n)
          rw [e, List.pairwise_append, List.pairwise_cons] at so
          have := so.2.1.1 j h
          omega
      rw [List.any_eq_false] at h1
      exact h1 j (List.mem_filter.mpr ⟨jA, l⟩) (decide_eq_true (by rw [Nat.and_comm]; exact em))
    · rfl
  · intro l
    refine ⟨?_, (grB_iff.mp l).1⟩
    rw [List.any_eq_false]
    intro k hk d
    obtain ⟨kA, lk⟩ := List.mem_filter.mp hk
    have hk2 : k < 2 ^ n := mem.mp (List.mem_append_left _ kA)
    have := (grB_iff.mp l).2 k hk2 (by rw [Nat.and_comm]; exact of_decide_eq_true d) (fun q => nA (q ▸ kA))
    rw [(grB_iff.mp lk).1] at this
    cases this
/-! ### lots of texts -/
section
variable {α : Type} [DecidableEq α] {T : List α → Bool}
/-- a lot that is enough, and none of whose things can be spared -/
def leastL (T : List α → Bool) (L : List α) : Bool := T L && L.all fun w => !T (L.filter fun o => decide (o ≠ w))
/-- more things do no harm -/
def Mono (T : List α → Bool) : Prop := ∀ a b : List α, (∀ x ∈ a, x ∈ b) → T a = true → T b = true
theorem leastL_iff (mo : Mono T) {xs : List α} (nd : xs.Nodup) {m : Nat} (hm : m < 2 ^ xs.length) : leastL T (chs xs m) = true ↔ leB (fun k => T (chs xs k)) xs.length m = true := by
  rw [leB_iff]
  unfold leastL
  rw [Bool.and_eq_true, List.all_eq_true]
  refine and_congr_right fun hT => ⟨fun h k hk e ne => ?_, fun h w hw => ?_⟩
  · cases wk : T (chs xs k)
    · rfl
    · exfalso
      have ns : ¬ ∀ y ∈ chs xs m, y ∈ chs xs k := fun q => ne (and_anti e ((chs_all nd hm).mp q))
      have ⟨w, hw, nw⟩ : ∃ w, w ∈ chs xs m ∧ w ∉ chs xs k := by
        apply Classical.byContradiction
        intro n
        exact ns fun y hy => Classical.byContradiction fun q => n ⟨y, hy, q⟩
      have := h w hw
      have t := mo (chs xs k) ((chs xs m).filter fun o => decide (o ≠ w)) (fun y hy => List.mem_filter.mpr ⟨(chs_all nd hk).mpr e y hy, decide_eq_true (show y ≠ w from fun q => nw (by rw [← q]; exact hy))⟩) wk
      rw [t] at this
      cases this
  · let p : α → Bool := fun x => decide (x ∈ chs xs m ∧ x ≠ w)
    have hk := msk_lt p xs
    have ek := chs_msk p xs
    have sub : ∀ y ∈ chs xs (msk p xs), y ∈ chs xs m := fun y hy => by
      rw [ek, List.mem_filter] at hy
      exact (of_decide_eq_true hy.2).1
    have ne : msk p xs ≠ m := fun q => by
      rw [← q, ek, List.mem_filter] at hw
      exact (of_decide_eq_true hw.2).2 rfl
    have f := h _ hk ((chs_all nd hk).mp sub) ne
    cases t : T ((chs xs m).filter fun o => decide (o ≠ w))
    · rfl
    · have := mo _ (chs xs (msk p xs)) (fun y hy => by
        obtain ⟨h1, h2⟩ := List.mem_filter.mp hy
        rw [ek]
        exact List.mem_filter.mpr ⟨(chs_sublist xs m).subset h1, decide_eq_true ⟨h1, of_decide_eq_true h2⟩⟩) t
      rw [show T (chs xs (msk p xs)) = false from f] at this
      cases this
/-- a lot that is not enough, and is so with any thing more -/
def unableL (T : List α → Bool) (xs L : List α) : Bool := !T L && xs.all fun w => decide (w ∈ L) || T (L ++ [w])
theorem unableL_iff (mo : Mono T) {xs : List α} (nd : xs.Nodup) {m : Nat} (hm : m < 2 ^ xs.length) : unableL T xs (chs xs m) = true ↔ grB (fun k => T (chs xs k)) xs.length m = true := by
  rw [grB_iff]
  unfold unableL
  rw [Bool.and_eq_true, List.all_eq_true, Bool.not_eq_true']
  refine and_congr_right fun hT => ⟨fun h k hk e ne => ?_, fun h w hw => ?_⟩
  · have ns : ¬ ∀ y ∈ chs xs k, y ∈ chs xs m := fun q => ne (and_anti ((chs_all nd hk).mp q) e)
    have ⟨w, hw, nw⟩ : ∃ w, w ∈ chs xs k ∧ w ∉ chs xs m := by
      apply Classical.byContradiction
      intro n
      exact ns fun y hy => Classical.byContradiction fun q => n ⟨y, hy, q⟩
    have := h w ((chs_sublist xs k).subset hw)
    rw [decide_eq_false nw, Bool.false_or] at this
    refine mo _ _ (fun y hy => ?_) this
    rcases List.mem_append.mp hy with q | q
    · exact (chs_all nd hm).mpr e y q
    · rw [List.mem_singleton.mp q]
      exact hw
  · by_cases mw : w ∈ chs xs m
    · rw [decide_eq_true mw]
      rfl
    · let p : α → Bool := fun x => decide (x ∈ chs xs m ∨ x = w)
      have hk := msk_lt p xs
      have ek := chs_msk p xs
      have sup : ∀ y ∈ chs xs m, y ∈ chs xs (msk p xs) := fun y hy => by
        rw [ek, List.mem_filter]
        exact ⟨(chs_sublist xs m).subset hy, decide_eq_true (.inl hy)⟩
      have ne : msk p xs ≠ m := fun q => mw (by
        rw [← q, ek, List.mem_filter]
        exact ⟨hw, decide_eq_true (.inr rfl)⟩)
      have f := h _ hk ((chs_all nd hm).mp sup) ne
      rw [mo (chs xs (msk p xs)) _ (fun y hy => by
        rw [ek, List.mem_filter] at hy
        rcases of_decide_eq_true hy.2 with q | q
        · exact List.mem_append_left _ q
        · exact List.mem_append_right _ (List.mem_singleton.mpr q)) f, Bool.or_true]
end
/-- all lots of some things -/
def lots {α : Type} (xs : List α) : List (List α) := (List.range (2 ^ xs.length)).map (chs xs)
theorem filter_map_perm {α : Type} {xs : List α} (p : List α → Bool) (q : Nat → Bool) (h : ∀ m, m < 2 ^ xs.length → p (chs xs m) = q m) : (((bySize xs.length).filter q).map (chs xs)).Perm ((lots xs).filter p) := by
  unfold lots
  rw [List.filter_map]
  refine List.Perm.map _ ?_
  rw [List.filter_congr (q := q) (p := p ∘ chs xs) fun m hm => h m (List.mem_range.mp hm)]
  exact (bySize_perm _).filter _
/-! ### lots, what they leave, what meets them -/
section
variable {α : Type} [DecidableEq α] {T : List α → Bool} {xs : List α}
theorem sub_filter : ∀ {ys xs : List α}, ys.Sublist xs → xs.Nodup → (xs.filter fun x => decide (x ∈ ys)) = ys
  | _, _, .slnil, _ => rfl
  | ys, x :: xs, .cons _ s, nd => by
    rw [List.nodup_cons] at nd
    rw [List.filter_cons_of_neg (by simpa using fun m => nd.1 (s.subset m))]
    exact sub_filter s nd.2
  | y :: ys, _ :: xs, .cons_cons _ s, nd => by
    rw [List.nodup_cons] at nd
    rw [List.filter_cons_of_pos (by simp)]
    congr 1
    rw [← sub_filter s nd.2]
    refine List.filter_congr fun x m => ?_
    rw [sub_filter s nd.2, decide_eq_decide, List.mem_cons]
    exact ⟨fun h => h.resolve_left fun e => nd.1 (e ▸ m), .inr⟩
theorem mem_lots (nd : xs.Nodup) {L : List α} : L ∈ lots xs ↔ L.Sublist xs := by
  unfold lots
  rw [List.mem_map]
  constructor
  · rintro ⟨m, _, rfl⟩
    exact chs_sublist xs m
  · intro s
    exact ⟨msk (fun x => decide (x ∈ L)) xs, List.mem_range.mpr (msk_lt _ _), by rw [chs_msk, sub_filter s nd]⟩
theorem lots_nodup (nd : xs.Nodup) : (lots xs).Nodup := by
  unfold lots
  rw [List.nodup_iff_pairwise_ne, List.pairwise_map]
  refine List.Pairwise.imp_of_mem (fun {a b} ha hb ne e => ?_) (List.nodup_iff_pairwise_ne.mp (List.nodup_range (n := 2 ^ xs.length)))
  have ha := List.mem_range.mp ha
  have hb := List.mem_range.mp hb
  exact ne (and_anti ((chs_all nd ha).mp fun y m => e ▸ m) ((chs_all nd hb).mp fun y m => e ▸ m))
/-- the other things -/
def rest (xs L : List α) : List α := xs.filter fun x => decide (x ∉ L)
theorem mem_rest {L : List α} {x : α} : x ∈ rest xs L ↔ x ∈ xs ∧ x ∉ L := by
  unfold rest
  rw [List.mem_filter, decide_eq_true_iff]
theorem rest_sub (L : List α) : (rest xs L).Sublist xs := List.filter_sublist
theorem rest_rest (nd : xs.Nodup) {L : List α} (s : L.Sublist xs) : rest xs (rest xs L) = L := by
  conv => rhs; rw [← sub_filter s nd]
  unfold rest
  refine List.filter_congr fun x m => ?_
  rw [decide_eq_decide, List.mem_filter, decide_eq_true_iff]
  exact ⟨fun h => Classical.byContradiction fun n => h ⟨m, n⟩, fun h n => n.2 h⟩
theorem sub_len (nd : xs.Nodup) {A B : List α} (sA : A.Sublist xs) (sB : B.Sublist xs) (h : ∀ x ∈ A, x ∈ B) : A.length ≤ B.length := by
  rw [← sub_filter sA nd, ← sub_filter sB nd, ← List.countP_eq_length_filter, ← List.countP_eq_length_filter]
  exact List.countP_mono_left fun x _ d => by
    rw [decide_eq_true_iff] at d ⊢
    exact h x d
theorem least_within (mo : Mono T) (nd : xs.Nodup) {A : List α} (s : A.Sublist xs) (t : T A = true) : ∃ L, L.Sublist xs ∧ leastL T L = true ∧ ∀ x ∈ L, x ∈ A := by
  obtain ⟨m, hm, rfl⟩ := List.mem_map.mp ((mem_lots nd).mpr s)
  have hm := List.mem_range.mp hm
  obtain ⟨j, hj, e, l⟩ := least_in (fun k => T (chs xs k)) xs.length _ m (Nat.le_refl _) hm t
  exact ⟨chs xs j, chs_sublist xs j, (leastL_iff mo nd hj).mpr l, (chs_all nd hj).mpr e⟩
theorem unable_above (mo : Mono T) (nd : xs.Nodup) {A : List α} (s : A.Sublist xs) (t : T A = false) : ∃ U, U.Sublist xs ∧ unableL T xs U = true ∧ ∀ x ∈ A, x ∈ U := by
  obtain ⟨m, hm, rfl⟩ := List.mem_map.mp ((mem_lots nd).mpr s)
  have hm := List.mem_range.mp hm
  obtain ⟨j, hj, e, l⟩ := great_in (fun k => T (chs xs k)) xs.length _ m (Nat.le_add_left _ _) hm t
  exact ⟨chs xs j, chs_sublist xs j, (unableL_iff mo nd hj).mpr l, (chs_all nd hm).mpr e⟩
theorem leastL_T {L : List α} (h : leastL T L = true) : T L = true := (Bool.and_eq_true _ _ ▸ h).1
theorem unableL_T {L : List α} (h : unableL T xs L = true) : T L = false := by
  unfold unableL at h
  rw [Bool.and_eq_true, Bool.not_eq_true'] at h
  exact h.1
theorem unableL_more {L : List α} (h : unableL T xs L = true) {w : α} (m : w ∈ xs) (n : w ∉ L) : T (L ++ [w]) = true := by
  unfold unableL at h
  rw [Bool.and_eq_true, List.all_eq_true] at h
  have := h.2 w m
  rw [decide_eq_false n, Bool.false_or] at this
  exact this
/-- a lot meets each of some lots -/
def meets (Ls : List (List α)) (S : List α) : Bool := Ls.all fun L => L.any fun x => decide (x ∈ S)
theorem meets_iff (mo : Mono T) (nd : xs.Nodup) {Ls : List (List α)} (hL : ∀ L, L ∈ Ls ↔ L.Sublist xs ∧ leastL T L = true) {S : List α} : meets Ls S = true ↔ T (rest xs S) = false := by
  unfold meets
  rw [List.all_eq_true]
  constructor
  · intro h
    cases t : T (rest xs S)
    · rfl
    · obtain ⟨L, s, l, sub⟩ := least_within mo nd (rest_sub S) t
      have := h L ((hL L).mpr ⟨s, l⟩)
      rw [List.any_eq_true] at this
      obtain ⟨x, mx, d⟩ := this
      exact absurd (of_decide_eq_true d) (mem_rest.mp (sub x mx)).2
  · intro t L mL
    obtain ⟨s, l⟩ := (hL L).mp mL
    rw [List.any_eq_true]
    apply Classical.byContradiction
    intro n
    have := mo L (rest xs S) (fun x mx => mem_rest.mpr ⟨s.subset mx, fun q => n ⟨x, mx, decide_eq_true q⟩⟩) (leastL_T l)
    rw [t] at this
    cases this
/-- a least one of those that meet -/
def leastMeet (xs : List α) (Ls : List (List α)) (S : List α) : Bool := meets Ls S && (lots xs).all fun O => !(meets Ls O && (decide (O.length < S.length) && O.all fun x => decide (x ∈ S)))
theorem leastMeet_iff (mo : Mono T) (nd : xs.Nodup) {Ls : List (List α)} (hL : ∀ L, L ∈ Ls ↔ L.Sublist xs ∧ leastL T L = true) {S : List α} (sS : S.Sublist xs) : leastMeet xs Ls S = true ↔ unableL T xs (rest xs S) = true := by
  unfold leastMeet unableL
  rw [Bool.and_eq_true, Bool.and_eq_true, meets_iff mo nd hL, Bool.not_eq_true', List.all_eq_true, List.all_eq_true]
  refine and_congr_right fun t => ⟨fun h w mw => ?_, fun h O mO => ?_⟩
  · by_cases c : w ∈ rest xs S
    · rw [decide_eq_true c]
      rfl
    · rw [decide_eq_false c, Bool.false_or]
      have wS : w ∈ S := Classical.byContradiction fun n => c (mem_rest.mpr ⟨mw, n⟩)
      have sO : (S.filter fun x => decide (x ≠ w)).Sublist xs := List.filter_sublist.trans sS
      have := h _ ((mem_lots nd).mpr sO)
      have lt : (S.filter fun x => decide (x ≠ w)).length < S.length := by
        rcases Nat.lt_or_ge (S.filter fun x => decide (x ≠ w)).length S.length with q | q
        · exact q
        · have e := List.filter_eq_self.mp (List.filter_sublist (p := fun x => decide (x ≠ w)) (l := S) |>.eq_of_length (Nat.le_antisymm (List.length_filter_le _ _) q))
          exact absurd rfl (of_decide_eq_true (e w wS))
      have inc : ((S.filter fun x => decide (x ≠ w)).all fun x => decide (x ∈ S)) = true := List.all_eq_true.mpr fun x m => decide_eq_true (List.mem_filter.mp m).1
      rw [decide_eq_true lt, inc, Bool.and_true, Bool.and_true, Bool.not_eq_true'] at this
      have tn : ¬ T (rest xs (S.filter fun x => decide (x ≠ w))) = false := fun q => by
        rw [(meets_iff mo nd hL).mpr q] at this
        cases this
      refine mo _ _ (fun x m => ?_) (by simpa using tn)
      obtain ⟨m1, m2⟩ := mem_rest.mp m
      by_cases e : x = w
      · exact List.mem_append_right _ (by rw [e]; exact List.mem_singleton.mpr rfl)
      · exact List.mem_append_left _ (mem_rest.mpr ⟨m1, fun q => m2 (List.mem_filter.mpr ⟨q, by simpa using e⟩)⟩)
  · have sO := (mem_lots nd).mp mO
    rw [Bool.not_eq_true']
    cases q : meets Ls O
    · rfl
    · by_cases lt : O.length < S.length
      · cases inc : O.all fun x => decide (x ∈ S)
        · rw [Bool.and_false, Bool.and_false]
        · exfalso
          have inc := fun x m => of_decide_eq_true (List.all_eq_true.mp inc x m)
          have ⟨w, wS, wO⟩ : ∃ w, w ∈ S ∧ w ∉ O := by
            apply Classical.byContradiction
            intro n
            have := sub_len nd sS sO fun x m => Classical.byContradiction fun q => n ⟨x, m, q⟩
            omega
          have tO := (meets_iff mo nd hL).mp q
          have tw := h w (sS.subset wS)
          rw [decide_eq_false (fun m => (mem_rest.mp m).2 wS), Bool.false_or] at tw
          rw [mo _ (rest xs O) (fun x m => ?_) tw] at tO
          · cases tO
          · rcases List.mem_append.mp m with m | m
            · obtain ⟨m1, m2⟩ := mem_rest.mp m
              exact mem_rest.mpr ⟨m1, fun q => m2 (inc x q)⟩
            · rw [List.mem_singleton.mp m]
              exact mem_rest.mpr ⟨sS.subset wS, wO⟩
      · rw [decide_eq_false lt]
        rfl
theorem left_perm (mo : Mono T) (nd : xs.Nodup) {Ls Us : List (List α)} (hL : ∀ L, L ∈ Ls ↔ L.Sublist xs ∧ leastL T L = true) (hU : ∀ U, U ∈ Us ↔ U.Sublist xs ∧ unableL T xs U = true) (nU : Us.Nodup) : (Us.map (rest xs)).Perm ((lots xs).filter (leastMeet xs Ls)) := by
  have n1 : (Us.map (rest xs)).Nodup := by
    rw [List.nodup_iff_pairwise_ne, List.pairwise_map]
    refine List.Pairwise.imp_of_mem (fun {a b} ha hb ne e => ne ?_) (List.nodup_iff_pairwise_ne.mp nU)
    rw [← rest_rest nd ((hU a).mp ha).1, e, rest_rest nd ((hU b).mp hb).1]
  refine (List.perm_ext_iff_of_nodup n1 ((lots_nodup nd).filter _)).mpr fun S => ?_
  rw [List.mem_map, List.mem_filter]
  constructor
  · rintro ⟨U, mU, rfl⟩
    obtain ⟨sU, uU⟩ := (hU U).mp mU
    exact ⟨(mem_lots nd).mpr (rest_sub U), (leastMeet_iff mo nd hL (rest_sub U)).mpr (by rw [rest_rest nd sU]; exact uU)⟩
  · rintro ⟨mS, l⟩
    have sS := (mem_lots nd).mp mS
    exact ⟨rest xs S, (hU _).mpr ⟨rest_sub S, (leastMeet_iff mo nd hL sS).mp l⟩, rest_rest nd sS⟩
end
end Mb

/-! Sorting of data of any depth, and by an own key function. -/
namespace Rs
open PySem PySem.W PyProof.Rows
theorem nsOne {h : Heap} {L : Addr} {m m' : Str → Option Value} : h.Ns L m → h.Ns L m' → m = m' := by
  rintro ⟨o, es, ep, e, d, _, r⟩ ⟨o', es', ep', e', d', _, r'⟩
  have : o = o' := Option.some.inj (e.symm.trans e')
  subst this
  rw [d] at d'
  injection d' with d1 d2
  subst d1
  funext x
  exact (r x).symm.trans (r' x)
theorem each_split {α β γ : Type} {R : α → γ → Prop} {S : γ → β → Prop} : ∀ {as : List α} {bs : List β}, EachIs (fun a b => ∃ c, R a c ∧ S c b) as bs → ∃ cs : List γ, EachIs R as cs ∧ EachIs S cs bs
  | _, _, .nil => ⟨[], .nil, .nil⟩
  | _, _, .cons ⟨c, h1, h2⟩ t => let ⟨cs, q1, q2⟩ := each_split t; ⟨c :: cs, .cons h1 q1, .cons h2 q2⟩
theorem each_get {α β : Type} {R : α → β → Prop} : ∀ {as : List α} {bs : List β}, EachIs R as bs → ∀ {i : Nat} {a : α}, as[i]? = some a → ∃ b, bs[i]? = some b ∧ R a b
  | _, _, .nil, _, _, h => by simp at h
  | _, _, .cons h t, 0, _, e => by
    simp at e
    subst e
    exact ⟨_, rfl, h⟩
  | _, _, .cons h t, i + 1, _, e => each_get t (i := i) (by simpa using e)
end Rs
namespace Rs
open PySem PySem.Spec PyProof.Rows L2 PySem.W
theorem each_vals {R : V → β → Prop} : ∀ {xs : List V} {us : List Value} {bs : List β}, Vals xs us → EachIs R xs bs → EachIs (fun u b => ∃ x, RelV x u ∧ R x b) us bs
  | _, _, _, .nil, .nil => .nil
  | _, _, _, .cons r rr, .cons h t => .cons ⟨_, r, h⟩ (each_vals rr t)
theorem vals_each {R : V → β → Prop} : ∀ {us : List Value} {bs : List β}, EachIs (fun u b => ∃ x, RelV x u ∧ R x b) us bs → ∃ xs : List V, Vals xs us ∧ EachIs R xs bs
  | _, _, .nil => ⟨[], .nil, .nil⟩
  | _, _, .cons ⟨x, r, h⟩ t => let ⟨xs, q1, q2⟩ := vals_each t; ⟨x :: xs, .cons r q1, .cons h q2⟩
/-- what is asked of the keys: alike, all tuples with an item or none a tuple, not deep -/
structure Keys (ds : List PyData) : Prop where
  al : AllAlike ds
  so : Sortable ds
  dp : ∀ d ∈ ds, d.depth ≤ 50
section
variable {X : Cx}
/-- sorted(xs), data of any depth -/
def rSortD (K : PySem.W.Frag) : List V → Hp → VK → Prop := fun vs H Q => ∃ (a : Addr) (xs : List V) (β : Type) (bs : List β) (k : β → PyData) (R : V → β → Prop), vs = [V.ref a] ∧ SqL K H a xs ∧ EachIs (fun x b => Dp K H x (k b) ∧ R x b) xs bs ∧ Keys (bs.map k) ∧
  ∀ (out : List V) (p : Addr) (G : Hp), EachIs (fun x b => Dp K H x (k b) ∧ R x b) out (bs.mergeSort (dataLe false k)) → H p = none → G p = some (.lst out) → Same H G → Q (.ref p) G
theorem cr_sortD (hu : X.A.units + 64 < cLine) : CallR X (.builtin "sorted") (rSortD X.K) := by
  intro pins s σ H vs us Q I r h
  obtain ⟨a, xs, β, bs, k, R, rfl, hs, he, hk, q⟩ := h
  obtain ⟨its, rv, hl, hz⟩ := I.list hs
  obtain rfl := Vals.ref1 r
  have hz' : its.length ≤ sizeLine := by rw [← rv.length]; exact hz
  have h1 : EachIs (fun u b => ∃ x, RelV x u ∧ (Dp X.K H x (k b) ∧ R x b)) its bs := each_vals rv he
  have h2 : EachIs (fun u b => ∃ as, Reads s.heap u (k b) as) its bs := h1.mono fun u b ⟨x, rx, hx, _⟩ => Dp.reads I (k b) x u hx rx
  have h3 : EachIs (fun u d => ∃ as, Reads (sortingHeap (copyHeap s.heap its) (s.heap.objs.size + 1) its) u d as) its (bs.map k) := by
    have : ∀ {as : List Value} {bs : List β}, EachIs (fun u b => ∃ as, Reads s.heap u (k b) as) as bs → EachIs (fun u d => ∃ as, Reads (sortingHeap (copyHeap s.heap its) (s.heap.objs.size + 1) its) u d as) as (bs.map k) := by
      intro as bs h
      induction h with
      | nil => exact .nil
      | cons h _ ih =>
        obtain ⟨as, r⟩ := h
        exact .cons ⟨as, PyProof.Rows.Reads.keeps (fun b o e => sorting_copy_old e) r⟩ ih
    exact this h2
  have SA : SortsAt X.prog X.w X.A.in1.in1 { s with heap := sortingHeap (copyHeap s.heap its) (s.heap.objs.size + 1) its } (dataKind (sortingHeap (copyHeap s.heap its) (s.heap.objs.size + 1) its) (bs.map k)) its := SortsAt.data (s := { s with heap := sortingHeap (copyHeap s.heap its) (s.heap.objs.size + 1) its }) h3 hk.al hk.so fun d hd => by
    have := hk.dp d hd
    simp only [units_in1]
    omega
  refine sorted_vals hl.isList SA hz' ?_
  have out := sortVals_each (κ := dataKind (sortingHeap (copyHeap s.heap its) (s.heap.objs.size + 1) its) (bs.map k)) (rev := false) (fun b => keyToks (k b)) h1 (each_of_map k (each_keys hk.al h3))
  obtain ⟨ys, ry, hy⟩ := vals_each out
  obtain ⟨ep, he'⟩ := PyProof.Rows.sortedAll_at s.heap its (sortVals (dataKind (sortingHeap (copyHeap s.heap its) (s.heap.objs.size + 1) its) (bs.map k)) false its its).toArray
  have hlen : ys.length ≤ sizeLine := by
    rw [ry.length, sortVals_length false rfl]
    exact hz'
  have hf := I.hok.fresh (Nat.le_succ s.heap.objs.size)
  exact ⟨.ref _, upd H (s.heap.objs.size + 1) (.lst ys), I.laid (t' := s.toks) (fun _ _ => PyProof.Rows.sortedAll_old) (Nat.le_succ _) ⟨hlen, _, ep, ry, he'⟩, rfl, q ys _ _ hy hf upd_same (Rd.same_upd hf)⟩
end
end Rs
namespace Rs
open PySem PySem.Spec PyProof.Rows L2 PySem.W
theorem room2 {k : Nat} {A : Around} (r : Room (k + 1) A) : Room k A.in1.in1 :=
  ⟨r.hd, by have := r.dp; show A.depth + 3 * k + 5 < _; omega, by have := r.un; show A.units + 1 + 1 + 16 * k + 200 < _; omega⟩
theorem each_imp {α β : Type} {R S : α → β → Prop} (h : ∀ a b, R a b → S a b) : ∀ {as : List α} {bs : List β}, EachIs R as bs → EachIs S as bs
  | _, _, .nil => .nil
  | _, _, .cons q t => .cons (h _ _ q) (each_imp h t)
theorem each_reads {X : Cx} {pins : List (Addr × Obj)} {σ : L2.St} {H : Hp} {s : Shared} (I : Inv X pins σ H s) {β : Type} {k : β → PyData} : ∀ {us : List Value} {vs : List V} {bs : List β}, Vals vs us → EachIs (fun x b => Dp X.K H x (k b)) vs bs → EachIs (fun u d => ∃ as, Reads s.heap u d as) us (bs.map k)
  | _, _, _, .nil, .nil => .nil
  | _, _, _, .cons r rr, .cons h t => .cons (Dp.reads I _ _ _ h r) (each_reads I rr t)
mutual
theorem Dp.same {K : PySem.W.Frag} {H H' : Hp} (s : Same H H') : ∀ (d : PyData) (v : V), Dp K H v d → Dp K H' v d
  | .none, _, h => by cases h; exact .non
  | .bool b, _, h => by cases h; exact .bl b
  | .int i, _, h => by cases h; exact .int i
  | .str x, _, h => by cases h; exact .str x
  | .list ds, _, h => by
    cases h with
    | lst hs ha => exact .lst (s.seq hs) (Dp.sameAll s ds _ ha)
  | .tuple ds, _, h => by
    cases h with
    | tup hs ha => exact .tup (Ru.same_tup s hs) (Dp.sameAll s ds _ ha)
  | .dict _, _, h => by cases h
theorem Dp.sameAll {K : PySem.W.Frag} {H H' : Hp} (s : Same H H') : ∀ (ds : List PyData) (vs : List V), DpAll K H vs ds → DpAll K H' vs ds
  | [], _, h => by cases h; exact .nil
  | d :: ds, _, h => by
    cases h with
    | cons h1 h2 => exact .cons (Dp.same s d _ h1) (Dp.sameAll s ds _ h2)
end
theorem each_snocK {β : Type} {R : V → β → Prop} {x : V} {y : β} (hxy : R x y) : ∀ {as : List V} {bs : List β}, EachIs R as bs → EachIs R (as ++ [x]) (bs ++ [y])
  | _, _, .nil => .cons hxy .nil
  | _, _, .cons h t => .cons h (each_snocK hxy t)
def rSortK (f : Addr) (sp : Sp) (K : PySem.W.Frag) : List V → List V → Hp → VK → Prop := fun vs zs H Q => ∃ (a : Addr) (xs : List V) (β : Type) (bs : List β) (k : β → PyData) (R : V → β → Prop), vs = [V.ref a] ∧ zs = [V.ref f] ∧ SqL K H a xs ∧ EachIs R xs bs ∧ Keys (bs.map k) ∧
  (∀ x b H1, Same H H1 → b ∈ bs → R x b → sp [x] H1 (fun v H2 => Same H1 H2 ∧ Dp K H2 v (k b)) (fun _ _ _ => False)) ∧
  ∀ (out : List V) (p : Addr) (G : Hp), EachIs R out (bs.mergeSort (dataLe false k)) → H p = none → G p = some (.lst out) → Same H G → Q (.ref p) G
section
variable {X : Cx} {f : Addr} {fd : FuncData} {ps : List Str} {sp : Sp} {k : Nat}
theorem cr_sortK (F : FnOk X.prog X.w X.K X.mg X.base CX0 k f fd ps sp) (hr : Room (k + 1) X.A) (hb : Binds X.K fd ps []) : CallRK X (.builtin "sorted") [Str.ofString "key"] (rSortK f sp X.K) := by
  intro pins s σ H vs zs us ws Q I r rz h
  obtain ⟨a, xs, β, bs, key, R, rfl, rfl, hs, he, hk, hkey, q⟩ := h
  obtain ⟨its, rv, hl, hz⟩ := I.list hs
  obtain rfl := Vals.ref1 r
  obtain rfl := Vals.ref1 rz
  have hz' : its.length ≤ sizeLine := by rw [← rv.length]; exact hz
  have hbl : its.length = bs.length := by rw [← rv.length, he.length]
  refine sorted_of_sort hl.isList hz' (ksk_s1 _ _) (fun _ => ksk_l1 _ _) fun E' => ?_
  show wpAny _ _ (Builtin.«list.sort» ⟨[.ref (s.heap.objs.size + 1)], [(Str.ofString "key", .ref f)]⟩) _ E' { s with heap := copyHeap s.heap its }
  rw [ksk_t1]
  unfold ksk_tree
  have hcs : (copyHeap s.heap its).objs.size = s.heap.objs.size + 2 := by
    unfold copyHeap
    rw [size_push', Heap.size_update, size_push']
  have ho := copyHeap_at s.heap its
  refine wpAny_bind (listItems_at ho rfl ?_)
  refine wpAny_bind (listUpdate_at ho rfl ?_ (by rw [List.size_toArray]; exact hz') (Nat.zero_le _))
  obtain ⟨e1, ho1⟩ : ∃ e1, ((copyHeap s.heap its).update (s.heap.objs.size + 1) (Obj.mapSeq fun _ => #[])).get? (s.heap.objs.size + 1) = some (seqObj "list" #[] e1) := ⟨_, get?_update_seq ho fun _ => #[]⟩
  refine wpAny_bind (seqEpoch_at ho1 rfl ?_)
  refine wpAny_bind (wpAny_newTuple ?_ (by show its.length ≤ _; exact hz'))
  refine wpAny_bind (wpAny_newList ?_ (Nat.zero_le _))
  refine wpAny_holding ?_
  have hks : (((copyHeap s.heap its).update (s.heap.objs.size + 1) (Obj.mapSeq fun _ => #[])).push (seqObj "tuple" its.toArray 0)).objs.size = s.heap.objs.size + 3 := by
    rw [size_push', Heap.size_update, hcs]
  have hoa : (sortingHeap (copyHeap s.heap its) (s.heap.objs.size + 1) its).get? (s.heap.objs.size + 1) = some (seqObj "list" #[] e1) :=
    Heap.get?_push_of_some _ (Heap.get?_push_of_some _ ho1)
  have hok : (sortingHeap (copyHeap s.heap its) (s.heap.objs.size + 1) its).get? (s.heap.objs.size + 3) = some (seqObj "list" #[] 0) := by
    rw [← hks]
    exact Heap.get?_push_size _ rfl
  show wpAny _ _ (ksk_rest (s.heap.objs.size + 1) (.ref f) false its.toArray e1 (.ref (((copyHeap s.heap its).update (s.heap.objs.size + 1) (Obj.mapSeq fun _ => #[])).push (seqObj "tuple" its.toArray 0)).objs.size)) _ E' { s with heap := sortingHeap (copyHeap s.heap its) (s.heap.objs.size + 1) its }
  rw [hks]
  have hk0 : ∀ b o, s.heap.get? b = some o → (sortingHeap (copyHeap s.heap its) (s.heap.objs.size + 1) its).get? b = some o := fun b o q => sorting_copy_old q
  generalize sortingHeap (copyHeap s.heap its) (s.heap.objs.size + 1) its = g0 at hoa hok hk0
  have old : ∀ b o, s.heap.get? b = some o → b < s.heap.objs.size := fun b o e => Heap.lt_size e
  have nL : @LT.lt Nat _ X.env.locals s.heap.objs.size := I.lt
  have up : ∀ c i : Nat, c < s.heap.objs.size → c ≠ s.heap.objs.size + i := fun c i h => by omega
  have pu : ∀ c i : Nat, c < s.heap.objs.size → s.heap.objs.size + i ≠ c := fun c i h => by omega
  have le0 : ∀ i : Nat, X.s_0.heap.objs.size ≤ s.heap.objs.size + i := fun i => Nat.le_trans I.sz (Nat.le_add_right _ _)
  have n13 : ¬ s.heap.objs.size + 1 = s.heap.objs.size + 3 := by omega
  have n31 : ¬ s.heap.objs.size + 3 = s.heap.objs.size + 1 := by omega
  have nC : ∀ x c, X.env.cells.lookup x = some c → c < s.heap.objs.size := fun x c e => by
    obtain ⟨v, o, ho, _⟩ := I.cell x c e
    exact Heap.lt_size ho
  have nP : ∀ p ∈ X.pn ++ pins, p.1 < s.heap.objs.size := fun p hp => Heap.lt_size (I.pin p hp).1
  have sz := I.sz
  unfold ksk_rest
  refine wpAny_bind (wpAny_rule ?_)
  first
    | rw [List.forIn_toArray]
    | (rw [← Array.forIn_toList]; simp only [List.toList_toArray])
    | rw [← Array.forIn_toList]
  refine wpAny_bind (ksk_fold (fun i s' => ∃ (Hc : Hp) (ks : List V) (kA : Array Value) (e : Nat), Inv X (pins ++ [(s.heap.objs.size + 3, seqObj "list" kA e), (s.heap.objs.size + 1, seqObj "list" #[] e1)]) σ Hc s' ∧ Same H Hc ∧ Vals ks kA.toList ∧
      EachIs (fun x b => Dp X.K Hc x (key b)) ks (bs.take i)) its 0 { s with heap := g0 } ?start ?step ?done)
  case start =>
    have I1 : Inv X pins σ H { s with heap := g0 } := I.kept (t' := s.toks) hk0
    have hf1 := I.hok.fresh (a := s.heap.objs.size + 1) (by omega)
    have hf3 := I.hok.fresh (a := s.heap.objs.size + 3) (by omega)
    refine ⟨H, [], #[], 0, I1.pins_of fun p hp => ?_, Same.refl _, .nil, by rw [List.take_zero]; exact .nil⟩
    rcases List.mem_append.mp hp with hp | hp
    · exact I1.pin p (List.mem_append_right _ hp)
    · rcases List.mem_cons.mp hp with rfl | hp
      · exact ⟨hok, hf3, pu _ 3 nL, I.nofs (by show _ ≤ s.heap.objs.size + 3; omega), fun v => by simp [seqObj]⟩
      · rw [List.mem_singleton.mp hp]
        exact ⟨hoa, hf1, pu _ 1 nL, I.nofs (by show _ ≤ s.heap.objs.size + 1; omega), fun v => by simp [seqObj]⟩
  case step =>
    rintro j u s' hu ⟨Hc, ks, kA, e, I', sm, rk, hke⟩
    simp only [Nat.zero_add] at hke ⊢
    have hj : j < its.length := (List.getElem?_eq_some_iff.mp hu).1
    obtain ⟨b, hbj⟩ : ∃ b, bs[j]? = some b := ⟨_, List.getElem?_eq_getElem (by omega)⟩
    obtain ⟨b', hbj', x, rx, hR⟩ := each_get (each_vals rv he) hu
    obtain rfl : b' = b := by rw [hbj] at hbj'; exact (Option.some.inj hbj').symm
    have hkl : kA.size ≤ its.length := by
      have h1 : ks.length = kA.size := rk.length.trans (by simp)
      have h2 := hke.length
      rw [List.length_take] at h2
      rw [← h1, h2]
      exact Nat.le_trans (Nat.min_le_right _ _) (Nat.le_of_eq hbl.symm)
    have hsp := hkey x b' Hc sm (List.mem_of_getElem? hbj) hR
    have run := F.run X.A.in1.in1 X.stack s' Hc ⟨[u], []⟩ [u] [x] _ _ (room2 hr) I'.env0.in1.in1 (by
      have := hb s' [u] I'.kIn (by have := F.len _ _ _ _ hsp; simpa using this)
      simpa using this) (.cons rx .nil) hsp
    refine wpAny_bind (wpAny_attempt (wpAny_mono (Q := fun v s2 => EP X (pins ++ [(s.heap.objs.size + 3, seqObj "list" kA e), (s.heap.objs.size + 1, seqObj "list" #[] e1)]) σ (fun v H2 => Same Hc H2 ∧ Dp X.K H2 v (key b')) v s2) (E := fun _ _ => False) (wpAny_call (codeAny_mono run fun r s2 hq => ?_)) (fun v s2 he => ?_) fun _ _ hF => hF.elim))
    · cases r with
      | error e => exact hq
      | ok fl =>
        cases fl with
        | ret u => exact I'.after hq
        | next => exact False.elim hq
        | brk => exact False.elim hq
        | cont => exact False.elim hq
    · obtain ⟨kv, H2, I2, rkv, sm2, hd⟩ := he
      have pk := I2.pin (s.heap.objs.size + 3, seqObj "list" kA e) (List.mem_append_right _ (List.mem_append_right _ (.head _)))
      have pa := I2.pin (s.heap.objs.size + 1, seqObj "list" #[] e1) (List.mem_append_right _ (List.mem_append_right _ (.tail _ (.head _))))
      have s1 := Heap.SameBut.update s2.heap (s.heap.objs.size + 3) (Obj.mapSeq (·.push v))
      obtain ⟨c2, hc2⟩ : ∃ c2, (s2.heap.update (s.heap.objs.size + 3) (Obj.mapSeq (·.push v))).get? (s.heap.objs.size + 3) = some (seqObj "list" (kA.push v) c2) := ⟨_, get?_update_seq pk.1 (·.push v)⟩
      have I3 : Inv X pins σ H2 s2 := I2.pins_of fun p hp => I2.pin p (List.mem_append_right _ (List.mem_append_left _ hp))
      have I4 : Inv X pins σ H2 { s2 with heap := s2.heap.update (s.heap.objs.size + 3) (Obj.mapSeq (·.push v)), toks := s2.toks } := I3.turned (it := s.heap.objs.size + 3) (fun b o n q => (s1.2 b n).trans q) pk.2.1 pk.2.2.1 (.inr (le0 3)) (fun x c q => up _ 3 (nC x c q)) fun p hp => up _ 3 (nP p hp)
      try dsimp only
      refine wpAny_bind (listUpdate_at pk.1 rfl ?_ (Nat.le_trans hkl hz') (Nat.le_trans (Nat.le_of_eq (Array.size_push ..)) (Nat.succ_le_succ (Nat.le_trans hkl hz'))))
      refine wpAny_pure ⟨rfl, H2, ks ++ [kv], kA.push v, c2, I4.pins_of fun p hp => ?_, sm.trans sm2, ?_, ?_⟩
      · rcases List.mem_append.mp hp with hp | hp
        · exact I4.pin p (List.mem_append_right _ hp)
        · rcases List.mem_cons.mp hp with rfl | hp
          · exact ⟨hc2, pk.2.1, pk.2.2.1, pk.2.2.2.1, fun v => by simp [seqObj]⟩
          · rw [List.mem_singleton.mp hp]
            exact ⟨(s1.2 _ n13).trans pa.1, pa.2⟩
      · rw [Array.toList_push]
        exact rk.append (.cons rkv .nil)
      · have ek : bs.take (j + 1) = bs.take j ++ [b'] := by rw [List.take_add_one, hbj]; simp
        rw [ek]
        exact each_snocK (R := fun x b => Dp X.K H2 x (key b)) hd (each_imp (R := fun x b => Dp X.K Hc x (key b)) (fun x b q => Dp.same sm2 _ _ q) hke)
  case done =>
    rintro s' ⟨Hc, ks, kA, e, I', sm, rk, hke⟩
    have hke' : EachIs (fun x b => Dp X.K Hc x (key b)) ks bs := by
      have e3 : bs.take (0 + its.length) = bs := List.take_of_length_le (by omega)
      rw [e3] at hke
      exact hke
    have pk := I'.pin (s.heap.objs.size + 3, seqObj "list" kA e) (List.mem_append_right _ (List.mem_append_right _ (.head _)))
    have pa := I'.pin (s.heap.objs.size + 1, seqObj "list" #[] e1) (List.mem_append_right _ (List.mem_append_right _ (.tail _ (.head _))))
    have hsz : kA.size = its.length := by
      have h1 : ks.length = kA.size := rk.length.trans (by simp)
      have h2 := hke'.length
      exact h1.symm.trans (h2.trans hbl.symm)
    have rd := each_reads I' rk hke'
    try dsimp only
    refine wpAny_bind (listItems_at pk.1 rfl ?_)
    have SA : SortsAt X.prog X.w X.A.in1.in1 s' (dataKind s'.heap (bs.map key)) kA.toList := SortsAt.data rd hk.al hk.so fun d hd => by
      have h1 := hk.dp d hd
      have h2 := hr.un
      simp only [units_in1]
      omega
    obtain ⟨m, Fr0⟩ := I'.fr
    have hiB : ∀ i : Nat, X.base.get? (s.heap.objs.size + i) = none := fun i => by
      cases q : X.base.get? (s.heap.objs.size + i) with
      | none => rfl
      | some o =>
        exact absurd (Nat.lt_of_le_of_lt (Nat.le_add_right _ _) (Heap.lt_size (I.bk _ o q))) (Nat.lt_irrefl _)
    let rs := (allNews X.base s'.heap X.env.locals).filter fun p => decide (p.1 ≠ s.heap.objs.size + 3 ∧ p.1 ≠ s.heap.objs.size + 1)
    have hrs : ∀ p ∈ rs, p.1 ≠ s.heap.objs.size + 3 ∧ p.1 ≠ s.heap.objs.size + 1 := fun p hp => of_decide_eq_true (List.mem_filter.mp hp).2
    have N0 : News X.base X.env.locals s'.heap (rs ++ [(s.heap.objs.size + 3, seqObj "list" kA e), (s.heap.objs.size + 1, seqObj "list" #[] e1)]) := fun p hp => by
      rcases List.mem_append.mp hp with hp | hp
      · exact news_all p (List.mem_filter.mp hp).1
      · rcases List.mem_cons.mp hp with rfl | hp
        · exact ⟨pk.1, pk.2.2.1, hiB 3⟩
        · rw [List.mem_singleton.mp hp]
          exact ⟨pa.1, pa.2.2.1, hiB 1⟩
    refine key_end (κ := dataKind s'.heap (bs.map key)) Fr0 N0 n31 (fun p hp => (hrs p hp).1) (fun p hp => (hrs p hp).2) SA hsz hz' fun h' tk ep F' N' => ⟨rfl, ?_⟩
    have kp : ∀ c o, c ≠ X.env.locals → c ≠ s.heap.objs.size + 3 → c ≠ s.heap.objs.size + 1 → s'.heap.get? c = some o → h'.get? c = some o := fun c o n0 n1 n2 q => by
      cases z : X.base.get? c with
      | some u =>
        have := I'.bk c u z
        rw [q] at this
        cases this
        exact F'.keep c _ z
      | none => exact (N' (c, o) (List.mem_cons_of_mem _ (List.mem_filter.mpr ⟨mem_allNews n0 z q, decide_eq_true ⟨n1, n2⟩⟩))).1
    have ha' := (N' _ List.mem_cons_self).1
    have out := sortVals_each (κ := dataKind s'.heap (bs.map key)) (rev := false) (fun b => keyToks (key b)) (each_vals rv he) (each_of_map key (each_keys hk.al rd))
    obtain ⟨ys, ry, hy⟩ := vals_each out
    have hlen : ys.length ≤ sizeLine := by
      rw [ry.length, sortVals_length false (by rw [Array.length_toList]; exact hsz)]
      exact hz'
    have I3 : Inv X pins σ Hc s' := I'.pins_of fun p hp => I'.pin p (List.mem_append_right _ (List.mem_append_left _ hp))
    have fin : Inv X pins σ (upd Hc (s.heap.objs.size + 1) (.lst ys)) { s' with heap := h', gens := s'.gens, drawn := s'.drawn, toks := tk } := by
      have hna : Hc (s.heap.objs.size + 1) = none := pa.2.1
      have hnk : Hc (s.heap.objs.size + 3) = none := pk.2.1
      refine I3.step (ch := [s.heap.objs.size + 3, s.heap.objs.size + 1]) (fun b hb => ?_) (fun b o nl _ hc q _ => kp b o nl (fun z => hc (by simp [z])) (fun z => hc (by simp [z])) q) (fun b o nl _ hc q _ => ⟨o.slots, kp b o nl (fun z => hc (by simp [z])) (fun z => hc (by simp [z])) q⟩)
        (fun b o hc q n => ?_) (fun b o hc q => ?_) (fun b xs q => by rw [upd_ne (ne_of_none q hna)]; exact q) (fun b o u q => by rw [upd_ne (ne_of_none q hna)]; exact q) (fun b ps q => ⟨#[], by rw [upd_ne (ne_of_none q hna), q]; simp⟩) (fun m hm => ?_) (fun b u q => ?_) I3.bare
      · have : b = s.heap.objs.size + 3 ∨ b = s.heap.objs.size + 1 := by simpa using hb
        rcases this with rfl | rfl
        · exact ⟨.inr (le0 3), pu _ 3 nL, fun x c q => up _ 3 (nC x c q), fun p hp => up _ 3 (nP p hp)⟩
        · exact ⟨.inr (le0 1), pu _ 1 nL, fun x c q => up _ 1 (nC x c q), fun p hp => up _ 1 (nP p hp)⟩
      · rw [upd_ne (fun z => hc (by simp [z]))]
        exact n
      · by_cases hbl : b = X.env.locals
        · obtain ⟨o', _, _, ho', _⟩ := F'.ns
          exact ⟨o', by rw [hbl]; exact ho'⟩
        · exact ⟨o, kp b o hbl (fun z => hc (by simp [z])) (fun z => hc (by simp [z])) q⟩
      · rw [nsOne hm Fr0.ns]
        exact F'.ns
      · by_cases hba : b = s.heap.objs.size + 1
        · subst hba
          rw [upd_same] at q
          cases q
          exact ⟨hlen, _, ep, ry, ha'⟩
        · rw [upd_ne hba] at q
          refine (I3.hok b u q).stay (fun c v hc r => kp c v ?_ ?_ ?_ r) (fun c r => by rw [upd_ne (ne_of_none r hna)]; exact r) fun c xs r => by rw [upd_ne (ne_of_none r hna)]; exact r
          · rcases hc with z | z
            · rw [z]; exact ne_of_none q I3.free
            · exact ne_of_none z I3.free
          · rcases hc with z | z
            · rw [z]; exact ne_of_none q hnk
            · exact ne_of_none z hnk
          · rcases hc with z | z
            · rw [z]; exact hba
            · exact ne_of_none z hna
    exact ⟨.ref _, _, fin, rfl, q ys _ _ hy (I.hok.fresh (by omega)) upd_same fun b o z => by rw [upd_ne (ne_of_none (sm b o z) pa.2.1)]; exact sm b o z⟩
end
end Rs

/-! Further readings: zip of tuples, comprehensions that make dicts, locks, sorting. -/
namespace Rw
open PySem PySem.Spec PyProof.Rows L2 Rd
variable {X : Cx} {D : Ends} {σ : L2.St} {H : Hp} {K : PySem.W.Frag}
theorem walk_zipT {a b : Addr} {xs ys : List V} {n : Nat} (hn : n = min xs.length ys.length) : Walk (RZ.ItzT K a b) n (fun H => SqT K H a xs ∧ SqT K H b ys) (YPair (fun i => xs[i]?) (fun i => ys[i]?)) := by
  subst hn
  refine ⟨fun i H hi q => ⟨xs, ys, xs[i]'(by omega), ys[i]'(by omega), q.1, q.2, List.getElem?_eq_getElem _, List.getElem?_eq_getElem _⟩, fun H q => ⟨xs, ys, q.1, q.2, by omega⟩, ?_⟩
  rintro i H v H' _ q ⟨T, x, y, h1, h2, h3, h4, h5⟩
  exact ⟨T, x, y, h1, h2, h3, h4 xs q.1, h5 ys q.2⟩
theorem zipH {ta : TA} {R : It → Hp → Prop} (h : ta σ H fun vs H1 => ∃ a b xs ys, vs = [.ref a, .ref b] ∧ ((SqL K H1 a xs ∧ SqL K H1 b ys ∧ R (Itz K a b) H1) ∨ (SqT K H1 a xs ∧ SqT K H1 b ys ∧ R (RZ.ItzT K a b) H1))) : RZ.iZipA K ta σ H R := h
theorem zipT {a b : Addr} {xs ys : List V} {P Q : Addr → Addr → Prop} (h1 : SqT K H a xs) (h2 : SqT K H b ys) (h : Q a b) : ∃ a' b' xs ys, [V.ref a, V.ref b] = [.ref a', .ref b'] ∧ ((SqL K H a' xs ∧ SqL K H b' ys ∧ P a' b') ∨ (SqT K H a' xs ∧ SqT K H b' ys ∧ Q a' b')) :=
  ⟨a, b, xs, ys, rfl, .inr ⟨h1, h2, h⟩⟩
theorem slT {a : Addr} {xs : List V} {lo hi : Option Int} {Q : VK} (hp : SqT K H a xs) (hw : ¬ (HT.sIx xs.length 0 lo = 0 ∧ HT.sIx xs.length xs.length hi = xs.length)) (h : NewQ (.tup (cutV xs lo hi)) Q H) : rSlT K (.ref a) lo hi H Q := ⟨a, xs, rfl, hp, hw, h⟩
theorem sl1 {a : Addr} {xs : List V} {Q : VK} (hp : SqT K H a xs) (n0 : xs ≠ []) (h : NewQ (.tup xs.tail) Q H) : rSlT K (.ref a) (some 1) none H Q := by
  have l : 1 ≤ xs.length := Nat.one_le_iff_ne_zero.mpr fun e => n0 (List.eq_nil_of_length_eq_zero e)
  have e1 : HT.sIx xs.length 0 (some ((1 : Nat) : Int)) = 1 := by rw [HT.sIx_nat]; omega
  refine slT hp (fun ⟨e, _⟩ => ?_) ?_
  · have e' : HT.sIx xs.length 0 (some ((1 : Nat) : Int)) = 0 := e
    omega
  · have e : cutV xs (some 1) none = xs.tail := by
      show (xs.drop (HT.sIx xs.length 0 (some ((1 : Nat) : Int)))).take (xs.length - HT.sIx xs.length 0 (some ((1 : Nat) : Int))) = xs.tail
      rw [e1, List.drop_one]
      exact List.take_of_length_le (by rw [List.length_tail]; exact Nat.le_refl _)
    rw [e]
    exact h
/-! ### locks -/
def LkE (t : TE) (d : Addr) (u : HO) (σ : L2.St) (H : Hp) (Q : VK) : Prop := ∀ od, t σ (upd H d (.frz od u)) fun v H' => H' d = some (.frz od u) ∧ Q v (upd H' d u)
theorem lockE {t : TE} {d : Addr} {u : HO} {Q : VK} (e : H d = some u) (m : Mut (some u)) (h : ∀ (od : Obj) (G : Hp), G d = some (.frz od u) → (∀ b, b ≠ d → G b = H b) → t σ G fun v H' => H' d = some (.frz od u) ∧ Q v (upd H' d u)) : tLockE t σ H Q :=
  ⟨d, u, e, m, fun od => h od _ upd_same fun b hb => upd_ne hb⟩
theorem itemsH {td : TE} {R : It → Hp → Prop} (h : td σ H fun x H1 => ∃ d o kvs, x = .ref d ∧ H1 d = some (.frz o (.dK kvs)) ∧ R (Iti d o kvs) H1) : iItems td σ H R := h
theorem itemsX {d : Addr} {od : Obj} {kvs : List (Key × V)} {P : Addr → Obj → List (Key × V) → Prop} (e : H d = some (.frz od (.dK kvs))) (h : P d od kvs) : ∃ d' o kvs, V.ref d = .ref d' ∧ H d' = some (.frz o (.dK kvs)) ∧ P d' o kvs := ⟨d, od, kvs, rfl, e, h⟩
theorem keysH {td : TE} {R : It → Hp → Prop} (h : td σ H fun x H1 => ∃ d o, x = .ref d ∧ ((∃ kvs, H1 d = some (.frz o (.dK kvs)) ∧ R (Itk d o kvs) H1) ∨ ∃ kvs, H1 d = some (.frz o (.dT kvs)) ∧ R (Itkt d o kvs) H1)) : iKeys td σ H R := h
theorem keysX {d : Addr} {od : Obj} {kvs : List (Key × V)} {P : Addr → Obj → List (Key × V) → Prop} {P' : Addr → Obj → List (List Key × V) → Prop} (e : H d = some (.frz od (.dK kvs))) (h : P d od kvs) : ∃ d' o, V.ref d = .ref d' ∧ ((∃ kvs, H d' = some (.frz o (.dK kvs)) ∧ P d' o kvs) ∨ ∃ kvs, H d' = some (.frz o (.dT kvs)) ∧ P' d' o kvs) := ⟨d, od, rfl, .inl ⟨kvs, e, h⟩⟩
/-! ### dict comprehensions -/
section
variable {X : Cx}
theorem ps_setDc {i : Nat} {y : Str} {py : Pos} {kx vx tg iter : Expr} {ifs : List Expr} {scope : Scope} {own : List (Str × Nat)} {pos spos : Pos} {wi : TI} {g : TG} {tt : TT} {tk tv : TE} (hc : X.calm = true) (hN : X.N.Nodup) (hy : X.N[i]? = some y) (hyl : X.env.scope.names.lookup y = some .local)
    (hsw : swapsWith (.DictComp kx vx [⟨tg, iter, ifs, 0⟩] scope pos) (some (.Name y py)) spos.line X.env = pure true) (hi : PI X tg iter wi) (ok : BlkOk X.N X.env.scope scope own)
    (hg : ∀ (s : Shared) (H : Hp) (C : Addr) (cl : List (Str × Addr)) (fp : List Addr), PG (X.blk s H scope (compEnvC scope cl C X.env) fp) tg g)
    (ht : ∀ (s : Shared) (H : Hp) (C : Addr) (cl : List (Str × Addr)) (fp : List Addr), PTs (X.blk s H scope (compEnvC scope cl C X.env) fp) ifs tt)
    (hk : ∀ (s : Shared) (H : Hp) (C : Addr) (cl : List (Str × Addr)) (fp : List Addr), PE (X.blk s H scope (compEnvC scope cl C X.env) fp) kx tk)
    (he : ∀ (s : Shared) (H : Hp) (C : Addr) (cl : List (Str × Addr)) (fp : List Addr), PE (X.blk s H scope (compEnvC scope cl C X.env) fp) vx tv) (hs : ∀ x, foldedSetIterable iter X.env x = pure x := by intro _; rfl) :
    PS X (.Assign [.Name y py] (.DictComp kx vx [⟨tg, iter, ifs, 0⟩] scope pos) spos) (tAsg (tDc wi g tt tk tv (own.map (·.2))) (gName i)) := by
  refine ⟨fun pins s σ H D I h => ?_⟩
  have h' : tDc wi g tt tk tv (own.map (·.2)) σ H (fun x H1 => gName i x σ H1 D.nx) := h
  rw [exec_Assign_Name_used _ _ _ _ hsw]
  refine wpAny_bind (wpAny_standAt (wpAny_bind ?_))
  show wpAny _ _ (comprehension (.DictComp kx vx [⟨tg, iter, ifs, 0⟩] scope pos) scope X.env (firstIterPos [⟨tg, iter, ifs, 0⟩] pos) newDict false (eval iter X.env) (some (assign (.Name y py) X.env)) >>= fun _ => pure ()) _ _ s
  refine wpAny_bind (thn (dc_core (use := some (assign (.Name y py) X.env)) (Qf := fun _ s' => SP X pins D .next s') hc hN I hi ok hg ht hk he hs h' fun L C s1 m H1 I1 q hn f => ?_) fun _ s2 hq => wpAny_pure (wpAny_pure hq))
  refine (wpAny_assign_Name (store_ok2 (v := V.ref L) I1 hN hy (.inl hyl) rfl (fun s2 I2 w => ?_) (.inr hyl)) : wpAny _ _ (assign (.Name y py) X.env (.ref L)) _ _ _)
  obtain ⟨b, sb, hb⟩ := w
  obtain ⟨f0, f1, f2, f3, f4, f5⟩ := f
  have ne : C ≠ b := hb.elim (fun z => z ▸ f1) fun z e => f4 y b z e.symm
  exact ⟨m, hn.sameBut sb ne, fun h3 sb3 => ⟨_, H1, I2.turned (t' := s2.toks) (fun c o n e => (sb3.2 c n).trans e) f0 f1 f3 f4 f5, q⟩⟩
theorem sw_dc {kx vx : Expr} {gs : List Comprehension} {scope : Scope} {pos py : Pos} {y : Str} {l : Nat} {env : Env} (hk : env.scope.kind = .function) (hy : env.scope.names.lookup y = some .local) (hl : (py.line == pos.line) = true)
    (ha : (scope.names.any fun (n, k) => n == y && (k == .local || k == .cell)) = false) : swapsWith (.DictComp kx vx gs scope pos) (some (.Name y py)) l env = pure true := by
  have k1 : env.kindOf y = some .local := hy
  have k2 : env.blockKind = .function := by unfold Env.blockKind; rw [hk]; rfl
  unfold swapsWith
  simp only [k2, k1, ha, Expr.pos, hl]
  rfl
end
def Dc (J : It) (g : TG) (tt : TT) (tk tv : TE) (vs : List Nat) (σ : L2.St) (H1 : Hp) (Q : VK) : Prop := ∀ D, H1 D = none → ∃ W : Nat → Nat → Hp → Prop, (∃ m, W 0 m (upd H1 D (.dK []))) ∧ ∀ i m H, W i m H →
  (J.stop i H ∧ Q (.ref D) H) ∨ (J.go i H ∧ ∃ Nx : Hp → Prop, (∀ H', Nx H' → ∃ m', m' < m ∧ W (i + 1) m' H') ∧ ∀ x H', J.yld i H x H' → g x (wipe σ vs) H' fun σ2 H2 => wipe σ2 vs = wipe σ vs ∧ tt σ2 H2 fun b H3 =>
    if b = true then tk σ2 H3 fun y H4 => tv σ2 H4 fun z H5 => ∃ kvs k, y = kV k ∧ H5 D = some (.dK kvs) ∧ kvs.length < sizeLine ∧ Nx (upd H5 D (.dK (putK kvs k z))) else Nx H3)
theorem dc {wi : TI} {g : TG} {tt : TT} {tk tv : TE} {vs : List Nat} {Q : VK} (h : wi σ H fun J H1 => Dc J g tt tk tv vs σ H1 Q) : tDc wi g tt tk tv vs σ H Q := h
def DcPut (D : Addr) (H1 : Hp) (R : Nat → List (Key × V) → Hp → Prop) (i : Nat) (y z : V) (H5 : Hp) : Prop := ∃ kvs k, y = kV k ∧ H5 D = some (.dK kvs) ∧ kvs.length < sizeLine ∧ ∃ kvs', upd H5 D (.dK (putK kvs k z)) D = some (.dK kvs') ∧ Same H1 (upd H5 D (.dK (putK kvs k z))) ∧ R (i + 1) kvs' (upd H5 D (.dK (putK kvs k z)))
def DcNo (D : Addr) (H1 : Hp) (R : Nat → List (Key × V) → Hp → Prop) (i : Nat) (H3 : Hp) : Prop := ∃ kvs', H3 D = some (.dK kvs') ∧ Same H1 H3 ∧ R (i + 1) kvs' H3
theorem dcPut {D : Addr} {H1 H5 : Hp} {R : Nat → List (Key × V) → Hp → Prop} {i : Nat} {k : Key} {z : V} {kvs : List (Key × V)} (hD : H5 D = some (.dK kvs)) (nD : H1 D = none) (s : Same H1 H5) (hz : kvs.length < sizeLine) (r : ∀ G : Hp, G D = some (.dK (putK kvs k z)) → (∀ b, b ≠ D → G b = H5 b) → R (i + 1) (putK kvs k z) G) : DcPut D H1 R i (kV k) z H5 :=
  ⟨kvs, k, rfl, hD, hz, _, upd_same, fun b o e => by rw [upd_ne (ne_of_none e nD)]; exact s b o e, r _ upd_same fun b hb => upd_ne hb⟩
theorem dcS {J : It} {n : Nat} {G : Hp → Prop} {Y : Nat → Hp → V → Hp → Prop} (w : Walk J n G Y) {g : TG} {tt : TT} {tk tv : TE} {vs : List Nat} {H1 : Hp} {Q : VK} (hG : ∀ H, Same H1 H → G H) (R : Addr → Nat → List (Key × V) → Hp → Prop)
    (r0 : ∀ (D : Addr) (G : Hp), H1 D = none → G D = some (.dK []) → Same H1 G → R D 0 [] G)
    (hs : ∀ (D : Addr) i x H H' kvs, H1 D = none → i < n → H D = some (.dK kvs) → Same H1 H → R D i kvs H → Y i H x H' → g x (wipe σ vs) H' fun σ2 H2 => wipe σ2 vs = wipe σ vs ∧ tt σ2 H2 fun b H3 =>
      if b = true then tk σ2 H3 fun y H4 => tv σ2 H4 fun z H5 => DcPut D H1 (R D) i y z H5 else DcNo D H1 (R D) i H3)
    (hd : ∀ (D : Addr) kvs H, H1 D = none → H D = some (.dK kvs) → Same H1 H → R D n kvs H → Q (.ref D) H) : Dc J g tt tk tv vs σ H1 Q := fun D nD => by
  refine ⟨fun i m H => m = n - i ∧ i ≤ n ∧ ∃ kvs, H D = some (.dK kvs) ∧ Same H1 H ∧ R D i kvs H, ⟨n, by simp, Nat.zero_le _, [], upd_same, same_upd nD, r0 D _ nD upd_same (same_upd nD)⟩, ?_⟩
  rintro i m H ⟨rfl, hi, kvs, h1, h2, h3⟩
  have q := hG H h2
  by_cases hlt : i < n
  · refine .inr ⟨w.goes i H hlt q, fun H => ∃ kvs, H D = some (.dK kvs) ∧ Same H1 H ∧ R D (i + 1) kvs H, fun H' p' => ⟨n - (i + 1), by omega, rfl, hlt, p'⟩, fun x H' y => ?_⟩
    exact hs D i x H H' kvs nD hlt h1 h2 h3 (w.yields i H x H' hlt q y)
  · have e : i = n := by omega
    subst e
    exact .inl ⟨w.stops H q, hd D kvs H nD h1 h2 h3⟩
/-! ### sorted -/
theorem sortD {β : Type} {a : Addr} {xs : List V} {bs : List β} {Q : VK} (k : β → PyData) (R : V → β → Prop) (hs : SqL K H a xs) (he : PySem.W.EachIs (fun x b => Dp K H x (k b) ∧ R x b) xs bs) (hk : Rs.Keys (bs.map k))
    (h : ∀ (out : List V) (p : Addr) (G : Hp), PySem.W.EachIs (fun x b => Dp K H x (k b) ∧ R x b) out (bs.mergeSort (PySem.W.dataLe false k)) → H p = none → G p = some (.lst out) → Same H G → Q (.ref p) G) : Rs.rSortD K [.ref a] H Q :=
  ⟨a, xs, β, bs, k, R, rfl, hs, he, hk, h⟩
def SortK (f : Addr) (sp : Sp) (K : PySem.W.Frag) (vs zs : List V) (H : Hp) (Q : VK) : Prop := Rs.rSortK f sp K vs zs H Q
theorem ckw {r : List V → List V → Hp → VK → Prop} {t tk : TA} {Q : VK} (h : t σ H fun vs H1 => tk σ H1 fun zs H2 => r vs zs H2 Q) : tCKw r t tk σ H Q := h
theorem sortK {β : Type} {f : Addr} {sp : Sp} {a : Addr} {xs : List V} {bs : List β} {Q : VK} (k : β → PyData) (R : V → β → Prop) (hs : SqL K H a xs) (he : PySem.W.EachIs R xs bs) (hk : Rs.Keys (bs.map k))
    (hf : ∀ x b H1, Same H H1 → b ∈ bs → R x b → sp [x] H1 (fun v H2 => Same H1 H2 ∧ Dp K H2 v (k b)) (fun _ _ _ => False))
    (h : ∀ (out : List V) (p : Addr) (G : Hp), PySem.W.EachIs R out (bs.mergeSort (PySem.W.dataLe false k)) → H p = none → G p = some (.lst out) → Same H G → Q (.ref p) G) : Rs.rSortK f sp K [.ref a] [.ref f] H Q :=
  ⟨a, xs, β, bs, k, R, rfl, rfl, hs, he, hk, hf, h⟩
def DClr : V → List V → Hp → VK → Prop := rDClear
theorem clr {a : Addr} {kvs : List (Key × V)} {Q : VK} (e : H a = some (.dK kvs)) (h : ∀ G : Hp, G a = some (.dK []) → (∀ b, b ≠ a → G b = H b) → Q .non G) : rDClear (.ref a) [] H Q := ⟨a, kvs, rfl, rfl, e, h _ upd_same fun b hb => upd_ne hb⟩
end Rw
namespace Rd
open PySem PySem.Spec PyProof.Rows L2
variable {σ : L2.St} {H : Hp} {K : PySem.W.Frag}
theorem notT {ta : TE} {Q : VK} (h : ta σ H fun x H1 => ∃ k, TruV K x H1 k ∧ Q (.bl (!k)) H1) : tNotT K ta σ H Q := h
theorem yes {c A B : Prop} {i : Decidable c} (h : c) (a : A) : @ite Prop c i A B := by rw [if_pos h]; exact a
theorem no {c A B : Prop} {i : Decidable c} (h : ¬ c) (a : B) : @ite Prop c i A B := by rw [if_neg h]; exact a
theorem ifX {x : V} {i : Decidable (x = V.non)} {A B : Prop} (n : x ≠ .non) (h : B) : @ite Prop (x = V.non) i A B := by rw [if_neg n]; exact h
theorem ifR {a : Addr} {i : Decidable (V.ref a = V.non)} {A B : Prop} (h : B) : @ite Prop (V.ref a = V.non) i A B := ifX (by intro e; cases e) h
theorem ifI {a : Int} {i : Decidable (V.int a = V.non)} {A B : Prop} (h : B) : @ite Prop (V.int a = V.non) i A B := ifX (by intro e; cases e) h
theorem ifT {a : Str} {i : Decidable (V.str a = V.non)} {A B : Prop} (h : B) : @ite Prop (V.str a = V.non) i A B := ifX (by intro e; cases e) h
theorem ifN {i : Decidable (V.non = V.non)} {A B : Prop} (h : A) : @ite Prop (V.non = V.non) i A B := by rw [if_pos rfl]; exact h
theorem orTH {ta tb : TE} {Q : VK} (h : ta σ H fun x H1 => ∃ k, TruV K x H1 k ∧ if k = true then Q x H1 else tb σ H1 Q) : tOrT K ta tb σ H Q := h
end Rd

/-! Things of any kind, one level deep; exceptions of the program: made, raised, caught, asked. -/
namespace Rx
open PySem PySem.Spec PyProof.Rows L2 Rd
variable {X : Cx} {D : Ends} {σ : L2.St} {H H' : Hp} {K : PySem.W.Frag}
/-! ### kinds -/
inductive Kd where
  | non | bl (b : Bool) | int (i : Int) | str (z : Str) | lst (xs : List V) | tup (xs : List V) | dct
def Kd.ty : Kd → String
  | .non => "NoneType" | .bl _ => "bool" | .int _ => "int" | .str _ => "str" | .lst _ => "list" | .tup _ => "tuple" | .dct => "dict"
/-- what stands at a value -/
inductive Is (H : Hp) : V → Kd → Prop where
  | non : Is H .non .non
  | bl (b : Bool) : Is H (.bl b) (.bl b)
  | int (i : Int) : Is H (.int i) (.int i)
  | str {z : Str} (l : z.length ≤ 1000000) : Is H (.str z) (.str z)
  | lst {a : Addr} {xs : List V} (h : H a = some (.lst xs)) (l : xs.length ≤ 1000000) : Is H (.ref a) (.lst xs)
  | tup {a : Addr} {xs : List V} (h : H a = some (.tup xs)) (l : xs.length ≤ 1000000) : Is H (.ref a) (.tup xs)
  | dct {a : Addr} {kvs : List (Key × V)} (h : H a = some (.dK kvs)) : Is H (.ref a) .dct
theorem Is.same {x : V} {k : Kd} (s : Same H H') (h : Is H x k) : Is H' x k := by
  cases h with
  | non => exact .non
  | bl b => exact .bl b
  | int i => exact .int i
  | str l => exact .str l
  | lst h l => exact .lst (s _ _ h) l
  | tup h l => exact .tup (s _ _ h) l
  | dct h => exact .dct (s _ _ h)
theorem Is.inj {x : V} {k k' : Kd} (h : Is H x k) (h' : Is H x k') : k = k' := by
  cases h <;> cases h' <;> first | rfl | (rename_i a b c d; first | (rw [a] at c; cases c; rfl) | (rw [a] at c; cases c) | (rw [a] at d; cases d) | skip) <;> simp_all
theorem Is.ty {x : V} {k : Kd} (h : Is H x k) : TyX K H x (.type k.ty) := by
  cases h with
  | non => exact .base .non
  | bl b => exact .base (.bl b)
  | int i => exact .base (.int i)
  | str l => exact .base (.str _)
  | lst h l => exact .base (.lst h)
  | tup h l => exact .base (.tup h)
  | dct h => exact .base (.dK h)
def Kd.isInt : Kd → Bool | .int _ => true | .bl _ => true | _ => false
def Kd.isBl : Kd → Bool | .bl _ => true | _ => false
def Kd.isStr : Kd → Bool | .str _ => true | _ => false
def Kd.isLst : Kd → Bool | .lst _ => true | _ => false
def Kd.isTup : Kd → Bool | .tup _ => true | _ => false
def Kd.isDct : Kd → Bool | .dct => true | _ => false
def Kd.isSeq : Kd → Bool | .lst _ => true | .tup _ => true | _ => false
/-- an integer and no flag -/
def Kd.isNum : Kd → Bool | .int _ => true | _ => false
theorem kdInt : ∀ k : Kd, kitB k.ty "int" = some k.isInt
  | .non => (by decide +kernel : kitB "NoneType" "int" = some false)
  | .bl _ => (by decide +kernel : kitB "bool" "int" = some true)
  | .int _ => (by decide +kernel : kitB "int" "int" = some true)
  | .str _ => (by decide +kernel : kitB "str" "int" = some false)
  | .lst _ => (by decide +kernel : kitB "list" "int" = some false)
  | .tup _ => (by decide +kernel : kitB "tuple" "int" = some false)
  | .dct => (by decide +kernel : kitB "dict" "int" = some false)
theorem kdBl : ∀ k : Kd, kitB k.ty "bool" = some k.isBl
  | .non => (by decide +kernel : kitB "NoneType" "bool" = some false)
  | .bl _ => (by decide +kernel : kitB "bool" "bool" = some true)
  | .int _ => (by decide +kernel : kitB "int" "bool" = some false)
  | .str _ => (by decide +kernel : kitB "str" "bool" = some false)
  | .lst _ => (by decide +kernel : kitB "list" "bool" = some false)
  | .tup _ => (by decide +kernel : kitB "tuple" "bool" = some false)
  | .dct => (by decide +kernel : kitB "dict" "bool" = some false)
theorem kdStr : ∀ k : Kd, kitB k.ty "str" = some k.isStr
  | .non => (by decide +kernel : kitB "NoneType" "str" = some false)
  | .bl _ => (by decide +kernel : kitB "bool" "str" = some false)
  | .int _ => (by decide +kernel : kitB "int" "str" = some false)
  | .str _ => (by decide +kernel : kitB "str" "str" = some true)
  | .lst _ => (by decide +kernel : kitB "list" "str" = some false)
  | .tup _ => (by decide +kernel : kitB "tuple" "str" = some false)
  | .dct => (by decide +kernel : kitB "dict" "str" = some false)
theorem kdLst : ∀ k : Kd, kitB k.ty "list" = some k.isLst
  | .non => (by decide +kernel : kitB "NoneType" "list" = some false)
  | .bl _ => (by decide +kernel : kitB "bool" "list" = some false)
  | .int _ => (by decide +kernel : kitB "int" "list" = some false)
  | .str _ => (by decide +kernel : kitB "str" "list" = some false)
  | .lst _ => (by decide +kernel : kitB "list" "list" = some true)
  | .tup _ => (by decide +kernel : kitB "tuple" "list" = some false)
  | .dct => (by decide +kernel : kitB "dict" "list" = some false)
theorem kdTup : ∀ k : Kd, kitB k.ty "tuple" = some k.isTup
  | .non => (by decide +kernel : kitB "NoneType" "tuple" = some false)
  | .bl _ => (by decide +kernel : kitB "bool" "tuple" = some false)
  | .int _ => (by decide +kernel : kitB "int" "tuple" = some false)
  | .str _ => (by decide +kernel : kitB "str" "tuple" = some false)
  | .lst _ => (by decide +kernel : kitB "list" "tuple" = some false)
  | .tup _ => (by decide +kernel : kitB "tuple" "tuple" = some true)
  | .dct => (by decide +kernel : kitB "dict" "tuple" = some false)
theorem kdDct : ∀ k : Kd, kitB k.ty "dict" = some k.isDct
  | .non => (by decide +kernel : kitB "NoneType" "dict" = some false)
  | .bl _ => (by decide +kernel : kitB "bool" "dict" = some false)
  | .int _ => (by decide +kernel : kitB "int" "dict" = some false)
  | .str _ => (by decide +kernel : kitB "str" "dict" = some false)
  | .lst _ => (by decide +kernel : kitB "list" "dict" = some false)
  | .tup _ => (by decide +kernel : kitB "tuple" "dict" = some false)
  | .dct => (by decide +kernel : kitB "dict" "dict" = some true)
theorem askInt {x : V} {k : Kd} {Q : VK} (h : Is H x k) (q : Q (.bl k.isInt) H) : rIsi K [x, .ty "int"] H Q := Rd.isi h.ty (kdInt k) q
theorem askBl {x : V} {k : Kd} {Q : VK} (h : Is H x k) (q : Q (.bl k.isBl) H) : rIsi K [x, .ty "bool"] H Q := Rd.isi h.ty (kdBl k) q
theorem askStr {x : V} {k : Kd} {Q : VK} (h : Is H x k) (q : Q (.bl k.isStr) H) : rIsi K [x, .ty "str"] H Q := Rd.isi h.ty (kdStr k) q
theorem askLst {x : V} {k : Kd} {Q : VK} (h : Is H x k) (q : Q (.bl k.isLst) H) : rIsi K [x, .ty "list"] H Q := Rd.isi h.ty (kdLst k) q
theorem askTup {x : V} {k : Kd} {Q : VK} (h : Is H x k) (q : Q (.bl k.isTup) H) : rIsi K [x, .ty "tuple"] H Q := Rd.isi h.ty (kdTup k) q
theorem askDct {x : V} {k : Kd} {Q : VK} (h : Is H x k) (q : Q (.bl k.isDct) H) : rIsi K [x, .ty "dict"] H Q := Rd.isi h.ty (kdDct k) q
/-- (list, tuple) was just laid at tp -/
theorem askSeq {x : V} {k : Kd} {tp : Addr} {Q : VK} (ht : H tp = some (.tup [.ty "list", .ty "tuple"])) (h : Is H x k) (q : Q (.bl k.isSeq) H) : rIsiT K [x, .ref tp] H Q := by
  refine ⟨_, tp, _, _, [.type "list", .type "tuple"], k.isSeq, rfl, ht, .cons (.ty _) (.cons (.ty _) .nil), h.ty, ?_, q⟩
  have e1 := kdLst k
  have e2 := kdTup k
  refine kitAny_cons (kit_ty e1) (fun z1 => kitAny_cons (kit_ty e2) (fun z2 => ?_) fun z => ?_) fun z => ?_
  · rw [kitAny_nil]
    cases k <;> first | rfl | (cases z1; done) | (cases z2; done)
  · cases k <;> first | rfl | cases z
  · cases k <;> first | rfl | cases z
/-! ### equal without a look inside -/
/-- the one is the other, or both are equal data -/
def EqI (K : PySem.W.Frag) (H : Hp) (x y : V) : Prop := (x = y ∧ flatB x = true) ∨ (∃ a, x = .ref a ∧ y = .ref a) ∨ ∃ d e, Dp K H x d ∧ Dp K H y e ∧ SeqAt.shaped d = true ∧ SeqAt.shaped e = true ∧ PyData.eqv d e = true
theorem eqI_run {pins : List (Addr × Obj)} {s : Shared} (I : Inv X pins σ H s) {A : Around} (hu : A.units + 64 < cLine) {x y : V} {v u : Value} (h : EqI X.K H x y) (rx : RelV x v) (ry : RelV y u) : SeqAt.EqAt A s v u true := by
  rcases h with ⟨rfl, f⟩ | ⟨a, rfl, rfl⟩ | ⟨d, e, hd, he, sd, se, q⟩
  · exact eqAt_same rx ry f
  · cases (show v = Value.ref a from rx)
    cases (show u = Value.ref a from ry)
    exact SeqAt.EqAt.same _
  · obtain ⟨as, r1⟩ := Dp.reads I d x v hd rx
    obtain ⟨bs, r2⟩ := Dp.reads I e y u he ry
    have z := SeqAt.eqAt_reads d e A s v u as bs r1 r2 (SeqAt.canLay_of_shaped sd) (SeqAt.canLay_of_shaped se) (SeqAt.room_of_shaped sd hu)
    rw [q] at z
    exact z
theorem eqIs_run {pins : List (Addr × Obj)} {s : Shared} (I : Inv X pins σ H s) {A : Around} (hu : A.units + 64 < cLine) {xs ys : List V} (hp : Paired (EqI X.K H) xs ys) :
    ∀ {us ws : List Value}, Vals xs us → Vals ys ws → ∀ j (h1 : j < us.length) (h2 : j < ws.length), SeqAt.EqAt A s us[j] ws[j] true := by
  induction hp with
  | nil =>
    intro us ws r1 r2 j h1 h2
    cases r1
    exact absurd h1 (Nat.not_lt_zero j)
  | cons h _ k =>
    intro us ws r1 r2 j h1 h2
    cases r1 with
    | cons a1 b1 =>
      cases r2 with
      | cons a2 b2 =>
        cases j with
        | zero => exact eqI_run I hu h a1 a2
        | succ j => exact k b1 b2 j (Nat.lt_of_succ_lt_succ h1) (Nat.lt_of_succ_lt_succ h2)
/-- two tuples whose items are equal -/
def TupEq (K : PySem.W.Frag) (H : Hp) (x y : V) : Prop := ∃ a b xs ys, x = .ref a ∧ y = .ref b ∧ SqT K H a xs ∧ SqT K H b ys ∧ Paired (EqI K H) xs ys
def rEqX (K : PySem.W.Frag) : R2 := fun x y H Q => TupEq K H x y ∧ Q (.bl true) H
def rNeX (K : PySem.W.Frag) : R2 := fun x y H Q => TupEq K H x y ∧ Q (.bl false) H
theorem op_neX (hu : X.A.units + 66 < cLine) : OpR X (compareOp .NotEq) (rNeX X.K) := by
  intro pins s σ H x y v u Q I rx ry h
  obtain ⟨⟨a, b, xs, ys, rfl, rfl, ha, hb, hp⟩, q⟩ := h
  cases (show v = Value.ref a from rx)
  cases (show u = Value.ref b from ry)
  obtain ⟨us, r1, p1⟩ := I.tuple ha
  obtain ⟨ws, r2, p2⟩ := I.tuple hb
  have hsz : us.toArray.size = ws.toArray.size := by
    rw [List.size_toArray, List.size_toArray, ← r1.length, ← r2.length]
    exact Paired.length hp
  refine SeqAt.RcNeAt.tuples (e := fun _ => true) p1.1 p2.1 (by omega) (fun j h1 h2 => ?_) X.prog X.w _ _ ?_
  · have k := eqIs_run I (A := X.A.in1) (by show X.A.units + 1 + 64 < cLine; omega) hp r1 r2 j (by simpa using h1) (by simpa using h2)
    simpa using k
  · rw [show ((List.range (min us.toArray.size ws.toArray.size)).all fun _ => true) = true from List.all_eq_true.mpr fun _ _ => rfl, hsz]
    exact ⟨.bl false, H, I, by simp [L2.RelV], q⟩
theorem op_eqX (hu : X.A.units + 66 < cLine) : OpR X (compareOp .Eq) (rEqX X.K) := by
  intro pins s σ H x y v u Q I rx ry h
  obtain ⟨⟨a, b, xs, ys, rfl, rfl, ha, hb, hp⟩, q⟩ := h
  cases (show v = Value.ref a from rx)
  cases (show u = Value.ref b from ry)
  obtain ⟨us, r1, p1⟩ := I.tuple ha
  obtain ⟨ws, r2, p2⟩ := I.tuple hb
  have hsz : us.toArray.size = ws.toArray.size := by
    rw [List.size_toArray, List.size_toArray, ← r1.length, ← r2.length]
    exact Paired.length hp
  refine SeqAt.RcAt.tuples (e := fun _ => true) p1.1 p2.1 (by omega) (fun j h1 h2 => ?_) X.prog X.w _ _ ?_
  · have k := eqIs_run I (A := X.A.in1) (by show X.A.units + 1 + 64 < cLine; omega) hp r1 r2 j (by simpa using h1) (by simpa using h2)
    simpa using k
  · rw [show ((List.range (min us.toArray.size ws.toArray.size)).all fun _ => true) = true from List.all_eq_true.mpr fun _ _ => rfl, hsz]
    exact ⟨.bl true, H, I, by simp [L2.RelV], q⟩
end Rx
namespace Rx
open PySem PySem.Spec PyProof.Rows L2 Rd
/-! ### classes of exceptions, their __init__(self, value) at fI -/
structure ExcF (K : PySem.W.Frag) (fI C : Addr) : Prop where
  ox : OexC K C
  is : ExcC K C
  iC : PySem.W.findIn K (.ref C) "__init__" = some (some (.ref fI))
  nv : PySem.W.findIn K (.ref C) "value" = some none
  cl : PySem.W.isClsIn K C = true
  self : PySem.W.subIn K (.ref C) (.ref C) = some true
section
variable {K : PySem.W.Frag} {fI C E : Addr} {b : Bool}
theorem kitC (FE : ExcF K fI E) (h : PySem.W.subIn K (.ref C) (.ref E) = some b) : PySem.W.kitCls K (.ref C) (.ref E) = some b := by
  have h2 : (PySem.W.clsIn K E).isSome = true := FE.cl
  have e2 : ((PySem.W.clsIn K E).isSome && PySem.W.typeIn K (.ref E) == some (.type "type")) = true := by
    rw [h2, FE.ox.tyC] <;> rfl
  show (if ((PySem.W.clsIn K E).isSome && PySem.W.typeIn K (.ref E) == some (.type "type")) = true then PySem.W.subIn K (.ref C) (.ref E) else none) = some b
  rw [if_pos e2]
  exact h
theorem kit (FC : ExcF K fI C) (FE : ExcF K fI E) (h : PySem.W.subIn K (.ref C) (.ref E) = some b) : PySem.W.kitOne K (.ref C) (.ref E) = some b := by
  unfold PySem.W.kitOne
  by_cases c : C = E
  · subst c
    rw [FC.self] at h
    cases h
    rw [if_pos (beq_self_eq_true _)]
  · rw [if_neg (fun z => c (by simpa using z))]
    exact kitC FE h
theorem exm (FE : ExcF K fI E) (h : PySem.W.subIn K (.ref C) (.ref E) = some b) : PySem.W.exmOne K (.ref C) (.ref E) = some b := by
  have e1 : (PySem.W.subIn K (.ref E) (.type "BaseException") == some true) = true := by rw [FE.is.hs] <;> rfl
  show (if (PySem.W.subIn K (.ref E) (.type "BaseException") == some true) = true then PySem.W.kitCls K (.ref C) (.ref E) else none) = some b
  rw [if_pos e1]
  exact kitC FE h
end
/-! ### monotone readings -/
def tMono (te : TE) : TE := fun σ H Q => ∃ Q0 : VK, te σ H Q0 ∧ ∀ v H1, Q0 v H1 → Q v H1
theorem pe_mono {X : Cx} {e : Expr} {te : TE} (he : PE X e te) : PE X e (tMono te) := ⟨fun pins s σ H Q I h => by
  obtain ⟨Q0, h, imp⟩ := h
  exact thn (he.run pins s σ H Q0 I h) fun u s1 ⟨v, H1, I1, r1, q⟩ => ⟨v, H1, I1, r1, imp v H1 q⟩⟩
/-! ### raise C(e) -/
/-- self.value = value -/
def spWe (K : PySem.W.Frag) : Sp := fun vs H Q _ => ∃ (a C : Addr) (v : V), vs = [.ref a, v] ∧ OexC K C ∧ PySem.W.findIn K (.ref C) "value" = some none ∧ H a = some (exo a C none) ∧
  ∀ dx, H dx = none → dx ≠ a → Q .non (upd (upd H dx (exd dx [("value", v)])) a (exo a C (some dx)))
/-- behind: the exception's dict d is new and holds v -/
def RaiseQ (C : Addr) (v : V) (H1 : Hp) (Q : XK) : Prop := ∀ (d : Addr) (H2 : Hp), H1 d = none → H2 d = some (.xd [("value", v)]) → (∀ b, b ≠ d → H2 b = H1 b) → Q (.ref C) (some d) H2
def tRaise (C : Addr) (W : WX) (te : TE) : TS := fun _ σ H => te σ H fun v H1 => RaiseQ C v H1 fun cls d H2 => W cls d σ H2
theorem raiseH {C : Addr} {W : WX} {te : TE} {D : Ends} {σ : L2.St} {H : Hp} (h : te σ H fun v H1 => RaiseQ C v H1 fun cls d H2 => W cls d σ H2) : tRaise C W te D σ H := h
/-- what a raised exception leaves: all as it was, and its value in its dict -/
def Raised (C : Addr) (v : V) (H : Hp) (E : XK) : Prop := ∀ (d : Addr) (H2 : Hp), H d = none → H2 d = some (.xd [("value", v)]) → Same H H2 → E (.ref C) (some d) H2
theorem Raised.now {C : Addr} {v : V} {H H1 : Hp} {E : XK} (r : Raised C v H E) (s : Same H H1) : RaiseQ C v H1 E := fun d H2 n e k =>
  r d H2 (s.free n) e fun b o q => (k b (ne_of_none (s _ _ q) n)).trans (s _ _ q)
theorem mk_reads {K : PySem.W.Frag} {fI C : Addr} {te : TE} {σ : L2.St} {H : Hp} {Q : XK} (F : ExcF K fI C) (h : te σ H fun v H1 => RaiseQ C v H1 Q) : tMkO C (spWe K) [] (tCons (tMono te) tNil) σ H Q := by
  refine ⟨_, h, fun v H1 hv => ?_⟩
  refine ⟨(by decide : 1 ≤ 1000), fun a na => ⟨a, C, v, rfl, F.ox, F.nv, upd_same, fun dx ndx ne => ⟨rfl, dx, [("value", v)], upd_same, ?_, ?_, ?_⟩⟩⟩
  · rw [upd_ne ne, upd_same]
  · rw [upd_ne ne] at ndx
    exact ndx
  · rw [upd_ne ne] at ndx
    refine hv dx _ ndx upd_same fun b hb => ?_
    rw [upd_ne hb]
    by_cases c : b = a
    · rw [c, del_same, na]
    · rw [del_ne c, upd_ne c, upd_ne hb, upd_ne c]
section
variable {X : Cx} {x : Str} {e : Expr} {te : TE} {p pos pos2 : Pos} {C fI : Addr} {k : Nat} {fd : FuncData} {W : WX}
theorem ps_raise1 (hc : X.calm = true) (F : ExcF X.K fI C) (tI : PySem.W.typeIn X.K (.ref fI) = some (.type "function")) (F1 : FnOk X.prog X.w X.K X.mg X.base CX0 k fI fd ["self", "value"] (spWe X.K)) (hr : Room (k + 1) X.A) (hb : Binds X.K fd ["self", "value"] [])
    (hg : Gl X x) (hm : X.mg x = some (.ref C)) (tk : Takes X W) (he : PE X e te) (hdb : (x == ("__debug__" : Str)) = false := by decide) (hs : starEach (e :: []) X.env = (false, eval e X.env) :: starEach [] X.env := by rfl) (hpl : (backTo pos (starEach [] X.env)).any (·.1) = false := by rfl) :
    PS X (.Raise (some (.Call (.Name x p) [e] [] pos)) none pos2) (tRaise C W te) :=
  have z := ps_raise (pos := pos2) hc tk (pmk_oex (p := p) (pos := pos) F.ox F.iC tI F1 hr hb .nil (CX := CX0) (fun _ _ _ _ _ _ _ h => h.elim) hg hm (pa_cons (pe_mono he) pa_nil hs) hdb hs hpl)
  ⟨fun pins s σ H D I h => z.run pins s σ H D I (mk_reads F h)⟩
end
/-! ### what is asked of a caught exception -/
def rIsX (K : PySem.W.Frag) (a : Addr) (cls : Value) (d : Option Addr) : List V → Hp → VK → Prop := fun xs H Q => ∃ (D dd : Addr) (fs : List (Str × V)) (c : V) (cv : Value) (b : Bool), cls = .ref D ∧ d = some dd ∧ ExcC K D ∧ H dd = some (.xd fs) ∧ xs = [.ref a, c] ∧
  ClsV c cv ∧ PySem.W.kitOne K (.ref D) cv = some b ∧ Q (.bl b) H
end Rx
namespace PySem.W
open PySem PySem.Spec PySem.Calls PyProof.Rows
section
variable {prog : Program} {w : World} {A : Around} {E : Value → Shared → Prop} {s : Shared} {K : Frag} {x D : Addr} {ox : Obj} {od : Option Obj}
theorem findObj_dataX {C : Addr} {name : Str} {a g : Value} (hc : (clsIn K C).isSome = true) (ha : findIn K (.ref C) name = some (some a)) (hg : specialIn K a "__get__" = some (some g)) (ht : takesIn K a = some true) : findObj K C od name = some (.bind g a) := by
  obtain ⟨cd, hc⟩ := Option.isSome_iff_exists.mp hc
  unfold findObj
  rw [hc, Option.bind_some, ha, Option.bind_some]
  simp [hg, ht]
theorem kin_classX {Q : Option Value → Shared → Prop} (hga : findIn K (.ref D) "__getattribute__" = some (some (.builtin "BaseException.__getattribute__"))) (hgt : findIn K (.ref D) "__getattr__" = some none) (hsub : subIn K (.ref D) (.type "BaseException") = some true)
    (hdct : hasDictIn K D = true) (ha : findIn K (.ref D) "__class__" = some (some (.builtin "object.__class__")))
    (hn : specialIn K (.builtin "object.__class__") "__get__" = some (some (.builtin "getset_descriptor.__get__"))) (htk : takesIn K (.builtin "object.__class__") = some true) (hm : mroIn K D (.type "object") = some true)
    (X : K.In s.heap) (I : InstAt s.heap x ox D od) (h : Q (some (.ref D)) { s with toks := s.toks + 1 }) : wpAny (model prog w) A (getAttr? (.ref x) "__class__") Q E s := by
  have hf : findObj K D od "__class__" = some (.bind (.builtin "getset_descriptor.__get__") (.builtin "object.__class__")) := findObj_dataX (by obtain ⟨cd, hc, _⟩ := any_some hdct; rw [hc]; rfl) ha hn htk
  obtain ⟨hp, g, d, t, os⟩ := s
  have L0 := I.type (M := model prog w)
  have L1 := looks_findIn (M := model prog w) X hga
  have L2 := looks_findIn (M := model prog w) X hgt
  have L3 := looks_find (M := model prog w) X I hf
  have sub : Looks (model prog w) hp (isInstance (.ref x) (.type "BaseException")) true := L0.andThen (looks_subIn X hsub)
  have hx0 : (false && onTheHeap (Value.builtin "BaseException.__getattribute__")) = false := rfl
  have hx2 : (Value.builtin "BaseException.__getattribute__" == Value.builtin "object.__getattribute__") = false := by decide +kernel
  have hx1 : (onTheHeap (Value.ref D) && Value.builtin "BaseException.__getattribute__" == Value.builtin "object.__getattribute__") = false := by rw [hx2]; rfl
  unfold getAttr? getAttrBy? getAttrBy
  refine wpAny_bind (wpAny_mkText (wpAny_bind (wpAny_attempt (wpAny_holding (wpAny_bind (L0.at (wpAny_bind (L1.at ?_))))))))
  show wpAny _ _ (if (onTheHeap (Value.ref D) && Value.builtin "BaseException.__getattribute__" == Value.builtin "object.__getattribute__") = true then _ else _) _ _ _
  rw [hx1, if_neg Bool.false_ne_true]
  unfold getAttrByItsOwn hookBefore
  refine wpAny_bind ?_
  rw [if_pos (show onTheHeap (Value.ref D) = true from rfl)]
  refine L2.at ?_
  refine wpAny_bind (wpAny_attempt (wpAny_holding ?_))
  unfold callGetattribute
  rw [hx0, if_neg Bool.false_ne_true]
  unfold boundAndCalled
  rw [PySem.F.excAttr_ValueError.ga.bind (.ref x)]
  refine wpAny_bind (wpAny_pure ?_)
  show wpAny _ _ (call (.builtin "BaseException.__getattribute__") [.ref x, .str "__class__" t]) _ _ _
  refine wpAny_call (codeAny_call_builtin PySem.F.excAttr_ValueError.ga.plain PySem.F.entry_bexc_ga ?_)
  refine @check_slot (model prog w) _ _ ⟨hp, g, d, t + 1, os⟩ "BaseException.__getattribute__" "BaseException" "__getattribute__" (.ref x) [.str "__class__" t] [] _ (by decide +kernel) (by decide +kernel) sub (PySem.F.args_bexc_ga (.ref x) (.str "__class__" t)) ?_
  unfold Builtin.«object.__getattribute__»
  refine wpAny_bind (wpAny_of_eq (a := ((Value.ref x : Value), [Value.str "__class__" t])) (by first | rfl | (simp only [slotArgs]; rfl)) ?_)
  refine wpAny_bind (wpAny_pure (wpAny_bind (L0.at (wpAny_bind (L3.at ?_)))))
  show wpAny _ _ (holding [Value.builtin "object.__class__"] (call (.builtin "getset_descriptor.__get__") [.builtin "object.__class__", .ref x, .ref D]) >>= ret) _ _ _
  refine wpAny_bind (wpAny_holding (wpAny_call (class_get (s := ⟨hp, g, d, t + 1, os⟩) (ox := ox) (od := od) X I hm ?_)))
  refine wpAny_pure ?_
  show wpAny _ _ (handedOut (.ref D)) _ _ _
  rw [handedOut_of (v := .ref D) rfl]
  first
    | exact wpAny_pure (wpAny_pure h)
    | exact wpAny_pure h
    | exact wpAny_pure (wpAny_bind (wpAny_pure (wpAny_pure h)))
theorem kitx_excX (hga : findIn K (.ref D) "__getattribute__" = some (some (.builtin "BaseException.__getattribute__"))) (hgt : findIn K (.ref D) "__getattr__" = some none) (hsub : subIn K (.ref D) (.type "BaseException") = some true) (hdct : hasDictIn K D = true) (ha : findIn K (.ref D) "__class__" = some (some (.builtin "object.__class__")))
    (hn : specialIn K (.builtin "object.__class__") "__get__" = some (some (.builtin "getset_descriptor.__get__"))) (htk : takesIn K (.builtin "object.__class__") = some true) (hm : mroIn K D (.type "object") = some true) :
    KitX K (.ref x) (.ref D) (fun h => InstAt h x ox D od) where
  ty := fun _ _ _ I => I.type
  it := fun _ _ X _ => by
    obtain ⟨cdD, hcD, _⟩ := any_some hdct
    unfold clsIn at hcD
    split at hcD
    · rename_i c' d' cd' sl' ho
      intro A' Q' E' s' k q
      unfold isType loadHead
      exact wpAny_bind (wpAny_loadPart (k _ _ (X _ _ ho)) (wpAny_pure q))
    · cases hcD
  ne := fun h tp dd its n sl X htp => by
    obtain ⟨cdD, hcD, _⟩ := any_some hdct
    refine Bool.eq_false_iff.mpr fun q => ?_
    have e : D = tp := Value.ref.inj (beq_iff_eq.mp q)
    subst e
    unfold clsIn at hcD
    split at hcD
    · rename_i c' d' cd' sl' ho
      have z := (X _ _ ho).symm.trans htp
      cases z
    · cases hcD
  ca := fun X I k => kin_classX hga hgt hsub hdct ha hn htk hm X I k
end
end PySem.W
namespace Rx
open PySem PySem.Spec PyProof.Rows L2 Rd
theorem call_isX {X : Cx} {a : Addr} {oe : Obj} {cls : Value} {d : Option Addr} {pn : List (Addr × Obj)} (hz : Zc cls d oe) (hf : ∃ vs, oe.data = .fields vs) : CallR (X.suite a ((a, oe) :: pn)) (.builtin "isinstance") (rIsX X.K a cls d) := by
  intro pins s σ H xs us Q I r h
  obtain ⟨D, dd, fs, c, cv, b, rfl, rfl, C, hd, rfl, hcv, e, q⟩ := h
  obtain ⟨u1, u2, rfl, r1, r2⟩ := vals2 r
  cases (show u1 = Value.ref a from r1)
  have ec := hcv.eq r2
  subst ec
  obtain ⟨hget, _⟩ := I.pin (a, oe) (List.mem_append.mpr (.inl List.mem_cons_self))
  obtain ⟨vs, hv⟩ := hf
  have hx : ObjOk X.prog X.w H s.heap dd (.xd fs) := I.hok dd _ hd
  obtain ⟨mA, hns, hr⟩ := hx
  obtain ⟨od, ho, hl⟩ := lookIn_ns hns
  have J : PySem.W.InstAt s.heap a oe D (some od) := ⟨hget, hz.1, by unfold PySem.W.notCls; rw [hv] <;> rfl, by rw [hz.2]; exact ho⟩
  exact PySem.W.kia_one (PySem.W.kitx_excX C.hg C.hk C.hs C.hd C.ha C.hn C.ht C.hm) I.kIn J e (fun z => nomatch z) fun tk => ⟨.bl b, H, I.kept (t' := tk) fun _ _ z => z, rfl, q⟩
theorem isX {K : PySem.W.Frag} {a fI C E dd : Addr} {b : Bool} {fs : List (Str × V)} {H : Hp} {Q : VK} (FC : ExcF K fI C) (FE : ExcF K fI E) (h : PySem.W.subIn K (.ref C) (.ref E) = some b) (hd : H dd = some (.xd fs)) (q : Q (.bl b) H) : rIsX K a (.ref C) (some dd) [.ref a, .ref E] H Q :=
  ⟨C, dd, fs, _, _, b, rfl, rfl, FC.is, hd, rfl, .own E, kit FC FE h, q⟩
/-- e.value -/
def XvG (K : PySem.W.Frag) (a : Addr) (cls : Value) (d : Option Addr) (n : Str) : V → Hp → VK → Prop := fun x H1 Q => x = .ref a ∧ ∃ (C dd : Addr) (fs : List (Str × V)) (v : V), cls = .ref C ∧ d = some dd ∧ ExcC K C ∧ PySem.W.findIn K (.ref C) n = some none ∧ H1 dd = some (.xd fs) ∧ fs.lookup n = some v ∧ Q v H1
def tXv (K : PySem.W.Frag) (a : Addr) (cls : Value) (d : Option Addr) (n : Str) (te : TE) : TE := fun σ H Q => te σ H fun x H1 => XvG K a cls d n x H1 Q
theorem pe_xv {X : Cx} {a : Addr} {oe : Obj} {cls : Value} {d : Option Addr} {pn : List (Addr × Obj)} {e : Expr} {te : TE} {pos : Pos} {n : Str} (hz : Zc cls d oe) (hf : ∃ vs, oe.data = .fields vs) (he : PE (X.suite a ((a, oe) :: pn)) e te)
    (hb : attributeBase e n X.env (eval e X.env) = eval e X.env := by rfl) : PE (X.suite a ((a, oe) :: pn)) (.Attribute e n pos) (tXv X.K a cls d n te) := by
  refine ⟨fun pins s σ H Q I h => ?_⟩
  refine attr_of hb (thn (he.run pins s σ H _ I h) fun u s1 hh => ?_)
  obtain ⟨x, H1, I1, rx, ex, C, dd, fs, v, ec, ed, T, hno, ea, l, q⟩ := hh
  subst ex
  obtain rfl : u = Value.ref a := rx
  subst ec
  subst ed
  obtain ⟨ha, _⟩ := I1.pin (a, oe) (List.mem_append_left _ List.mem_cons_self)
  obtain ⟨vs, hd⟩ := hf
  have hx : ObjOk X.prog X.w H1 s1.heap dd (.xd fs) := I1.hok dd _ ea
  obtain ⟨mA, hns, hr⟩ := hx
  obtain ⟨od, ho, hl⟩ := lookIn_ns hns
  obtain ⟨u, hu, ru⟩ := RelO.some_of (v := v) (o := mA n) (by rw [← l]; exact hr n)
  have J : PySem.W.InstAt s1.heap a oe C (some od) := ⟨ha, hz.1, by unfold PySem.W.notCls; rw [hd] <;> rfl, by rw [hz.2]; exact ho⟩
  exact HandSPX.exc_get I1.kIn J T.hg T.hk T.hs (PySem.W.findObj_own T.hd hno rfl (by rw [hl, hu])) (handed_of ru) ⟨v, H1, I1.tok _, ru, q⟩
theorem xvH {K : PySem.W.Frag} {a : Addr} {cls : Value} {d : Option Addr} {n : Str} {te : TE} {σ : L2.St} {H : Hp} {Q : VK} (h : te σ H fun x H1 => XvG K a cls d n x H1 Q) : tXv K a cls d n te σ H Q := h
theorem xv {K : PySem.W.Frag} {a fI C dd : Addr} {v : V} {H : Hp} {Q : VK} (F : ExcF K fI C) (hd : H dd = some (.xd [("value", v)])) (q : Q v H) : XvG K a (.ref C) (some dd) "value" (.ref a) H Q :=
  ⟨rfl, C, dd, _, v, rfl, rfl, F.is, F.nv, hd, by simp [List.lookup], q⟩
/-- the clause names the class that it is -/
theorem caught {K : PySem.W.Frag} {fI C E : Addr} {i : Nat} {ts : Addr → Value → Option Addr → TS} {Wout : WX} {D : Ends} {d : Option Addr} {σ : L2.St} {H : Hp} (FE : ExcF K fI E) (h : PySem.W.subIn K (.ref C) (.ref E) = some true)
    (q : ∀ a, H a = none → ts a (.ref C) d { nx := fun σ' H' => D.nx (σ'.set i none) H', rt := D.rt, bk := fun σ' H' => D.bk (σ'.set i none) H', ct := fun σ' H' => D.ct (σ'.set i none) H' } (σ.set i (some (.ref a))) H) : wAs K (.ref E) i ts Wout D (.ref C) d σ H :=
  ⟨true, exm FE h, fun _ a na => q a na, fun z => nomatch z⟩
theorem callS {sp : Sp} {E : L2.St → XK} {t : TA} {σ : L2.St} {H : Hp} {Q : VK} (h : t σ H fun vs H1 => sp vs H1 Q (E σ)) : tCallS sp E t σ H Q := h
end Rx
namespace Rx
open PySem PySem.Spec PyProof.Rows L2 Rd
/-- an __init__(self, value=None) called with both -/
theorem binds2 {K : PySem.W.Frag} {x qual : Str} {params : Arguments} {body : List Stmt} {scope : Scope} {f : Addr} {fd : FuncData} (F : FunD K x qual params body scope [.non] [] f fd)
    (h : ∀ (T : Addr) (kV doc pm : Value) (an : Option Addr) (cdv ct : Value) (us its : List Value), us.length = 2 → its.length = 1 →
      ∃ k, bindArgs (PySem.W.fnOf x qual params body scope (.ref T) kV doc pm an cdv ct) ⟨us, []⟩ = seqItems? (.ref T) >>= k ∧ k (some its.toArray) = pure ((["self", "value"] : List Str).zip (us ++ its.drop 1))) : Binds K fd ["self", "value"] [] := by
  obtain ⟨ds, r, b⟩ := F.binds1 (ps := ["self", "value"]) 2 1 (by simp) rfl h
  cases r
  exact b
end Rx
namespace Rx
open PySem PySem.Spec PyProof.Rows L2 Rd
theorem u66 {k : Nat} {A : Around} (h : Room k A) : A.units + 66 < cLine := by have := h.un; omega
/-! ### text * int -/
def nRepS : R2 := fun x y H Q => ∃ (z : Str) (n : Int), x = .str z ∧ y = .int n ∧ MulOk z n ∧ Q (.str (Txt.mul z n)) H
theorem o_repS {X : Cx} : OpR X (binaryOp .Mult) nRepS := by
  intro pins s σ H x y v u Q I rx ry h
  obtain ⟨z, n, rfl, rfl, hok, q⟩ := h
  obtain ⟨t, rfl⟩ := rx
  obtain ⟨t', rfl⟩ := ry
  exact SB.mul hok fun t' k => ⟨.str (Txt.mul z n), H, I.tok _, ⟨_, rfl⟩, q⟩
theorem repS {z : Str} {n : Int} {H : Hp} {Q : VK} (hok : MulOk z n) (q : Q (.str (Txt.mul z n)) H) : nRepS (.str z) (.int n) H Q := ⟨z, n, rfl, rfl, hok, q⟩
/-! ### things with their items -/
/-- what stands at a value, and at its items -/
def Rowed (H : Hp) (x : V) (k : Kd) (ks : List Kd) : Prop := Is H x k ∧ ∀ xs, k = .lst xs ∨ k = .tup xs → Paired (Is H) xs ks
theorem paired_same {H H' : Hp} (s : Same H H') {xs : List V} {ks : List Kd} (h : Paired (Is H) xs ks) : Paired (Is H') xs ks := by
  induction h with
  | nil => exact .nil
  | cons a _ ih => exact .cons (a.same s) ih
theorem Rowed.same {H H' : Hp} {x : V} {k : Kd} {ks : List Kd} (s : Same H H') (h : Rowed H x k ks) : Rowed H' x k ks := ⟨h.1.same s, fun xs e => paired_same s (h.2 xs e)⟩
/-- an address that is not t's -/
def Off (t : Addr) (x : V) : Prop := x ≠ .ref t
theorem off_ref {t a : Addr} (h : a ≠ t) : Off t (.ref a) := fun e => h (V.ref.inj e)
theorem Is.but {t : Addr} {H H' : Hp} {x : V} {k : Kd} (b : Rd.But t H H') (o : Off t x) (h : Is H x k) : Is H' x k := by
  cases h with
  | non => exact .non
  | bl b => exact .bl b
  | int i => exact .int i
  | str l => exact .str l
  | lst h l => exact .lst (b _ _ (fun e => o (by rw [e])) h) l
  | tup h l => exact .tup (b _ _ (fun e => o (by rw [e])) h) l
  | dct h => exact .dct (b _ _ (fun e => o (by rw [e])) h)
theorem paired_but {t : Addr} {H H' : Hp} (b : Rd.But t H H') {xs : List V} {ks : List Kd} (h : Paired (Is H) xs ks) : (∀ y ∈ xs, Off t y) → Paired (Is H') xs ks := by
  induction h with
  | nil => exact fun _ => .nil
  | cons a _ ih => exact fun o => .cons (a.but b (o _ (List.mem_cons_self ..))) (ih fun y m => o y (List.mem_cons_of_mem _ m))
/-- a thing of some kind, its items too; none of them is the object at t (the tape) -/
def Thing (t : Addr) (H : Hp) (x : V) : Prop := ∃ k ks, Rowed H x k ks ∧ Off t x ∧ ∀ xs, k = .lst xs ∨ k = .tup xs → ∀ y ∈ xs, Off t y
theorem Thing.same {t : Addr} {H H' : Hp} {x : V} (s : Same H H') (h : Thing t H x) : Thing t H' x := let ⟨k, ks, r, o⟩ := h; ⟨k, ks, r.same s, o⟩
theorem Thing.but {t : Addr} {H H' : Hp} {x : V} (b : Rd.But t H H') (h : Thing t H x) : Thing t H' x := let ⟨k, ks, r, o, p⟩ := h; ⟨k, ks, ⟨r.1.but b o, fun xs e => paired_but b (r.2 xs e) (p xs e)⟩, o, p⟩
theorem flat {t : Addr} {H : Hp} {x : V} {k : Kd} (h : Is H x k) (n : k.isSeq = false) (o : Off t x := by intro e; cases e) : Thing t H x := ⟨k, [], ⟨h, fun xs e => by rcases e with rfl | rfl <;> cases n⟩, o, fun xs e => by rcases e with rfl | rfl <;> cases n⟩
/-- an item -/
def Item (t : Addr) (H : Hp) (x : V) : Prop := (∃ k, Is H x k) ∧ Off t x
theorem item {t : Addr} {H : Hp} {x : V} {k : Kd} (h : Is H x k) (o : Off t x := by intro e; cases e) : Item t H x := ⟨⟨k, h⟩, o⟩
theorem Item.same {t : Addr} {H H' : Hp} {x : V} (s : Same H H') (h : Item t H x) : Item t H' x := let ⟨⟨k, i⟩, o⟩ := h; ⟨⟨k, i.same s⟩, o⟩
theorem Item.but {t : Addr} {H H' : Hp} {x : V} (b : Rd.But t H H') (h : Item t H x) : Item t H' x := let ⟨⟨k, i⟩, o⟩ := h; ⟨⟨k, i.but b o⟩, o⟩
theorem kinds {t : Addr} {H : Hp} : ∀ {xs : List V}, (∀ x ∈ xs, Item t H x) → ∃ ks, Paired (Is H) xs ks
  | [], _ => ⟨[], .nil⟩
  | x :: xs, h => let ⟨⟨k, i⟩, _⟩ := h x (List.mem_cons_self ..); let ⟨ks, r⟩ := kinds fun y m => h y (List.mem_cons_of_mem _ m); ⟨k :: ks, .cons i r⟩
theorem seqL {t : Addr} {H : Hp} {a : Addr} {xs : List V} (h : H a = some (.lst xs)) (o : a ≠ t) (l : xs.length ≤ 1000000) (i : ∀ x ∈ xs, Item t H x) : Thing t H (.ref a) :=
  let ⟨ks, r⟩ := kinds i; ⟨_, ks, ⟨.lst h l, fun ys e => by rcases e with e | e <;> cases e; exact r⟩, off_ref o, fun ys e => by rcases e with e | e <;> cases e; exact fun y m => (i y m).2⟩
theorem seqT {t : Addr} {H : Hp} {a : Addr} {xs : List V} (h : H a = some (.tup xs)) (o : a ≠ t) (l : xs.length ≤ 1000000) (i : ∀ x ∈ xs, Item t H x) : Thing t H (.ref a) :=
  let ⟨ks, r⟩ := kinds i; ⟨_, ks, ⟨.tup h l, fun ys e => by rcases e with e | e <;> cases e; exact r⟩, off_ref o, fun ys e => by rcases e with e | e <;> cases e; exact fun y m => (i y m).2⟩
theorem all_nil {P : V → Prop} : ∀ x ∈ ([] : List V), P x := fun _ h => nomatch h
theorem all_cons {P : V → Prop} {x : V} {xs : List V} (h : P x) (t : ∀ y ∈ xs, P y) : ∀ y ∈ x :: xs, P y := fun y m => by
  rcases List.mem_cons.mp m with rfl | m
  · exact h
  · exact t y m
theorem paired_get {R : V → Kd → Prop} {xs : List V} {ks : List Kd} (h : Paired R xs ks) : ∀ {i : Nat} {x : V}, xs[i]? = some x → ∃ k, ks[i]? = some k ∧ R x k := by
  induction h with
  | nil => intro i x e; simp at e
  | cons a _ ih =>
    intro i x e
    cases i with
    | zero => cases e; exact ⟨_, rfl, a⟩
    | succ i => exact ih e
/-! ### range(i, j, c) upwards -/
/-- how many -/
def cnt (i j c : Int) : Nat := if i < j then ((j - i - 1) / c + 1).toNat else 0
theorem rg_pos {i j c : Int} (c0 : 0 < c) (c1 : c < 1073741824) (hi : 0 ≤ i) (hi' : i < 2 ^ 62) (hj : 0 ≤ j) (hj' : j < 2 ^ 62) : RgC i j c (cnt i j c) := by
  have e : Builtin.Range.rangeSize i j c = (cnt i j c : Nat) := by
    unfold Builtin.Range.rangeSize cnt
    rw [if_pos c0]
    split
    · have : 0 ≤ (j - i - 1) / c := Int.ediv_nonneg (by omega) (by omega)
      omega
    · rfl
  have hb : (cnt i j c : Int) ≤ 2 ^ 62 + 1 := by
    unfold cnt
    split
    · have h1 : 0 ≤ (j - i - 1) / c := Int.ediv_nonneg (by omega) (by omega)
      have h2 : (j - i - 1) / c ≤ j - i - 1 := Int.ediv_le_self _ (by omega)
      omega
    · decide
  refine ⟨by omega, by omega, ?_, e⟩
  unfold Builtin.Range.small
  rw [e]
  simp only [Builtin.Range.rangeFitsLong, Bool.and_eq_true, Bool.or_eq_true, decide_eq_true_eq, beq_iff_eq]
  rw [if_pos c0]
  simp only [Bool.and_eq_true, decide_eq_true_eq]
  omega
theorem cnt_lt {i j c : Int} (c0 : 0 < c) (k : Nat) : k < cnt i j c ↔ i + (k : Int) * c < j := by
  unfold cnt
  split
  · rename_i h
    have h1 : 0 ≤ (j - i - 1) / c := Int.ediv_nonneg (by omega) (by omega)
    have e : k < ((j - i - 1) / c + 1).toNat ↔ (k : Int) ≤ (j - i - 1) / c := by omega
    rw [e, Int.le_ediv_iff_mul_le c0]
    omega
  · have : 0 ≤ (k : Int) * c := Int.mul_nonneg (by omega) (by omega)
    omega
theorem rng3 {ta : TA} {σ : L2.St} {H : Hp} {R : It → Hp → Prop} (h : ta σ H fun vs H1 => ∃ (i j c : Int) (n : Nat), vs = [.int i, .int j, .int c] ∧ RgC i j c n ∧ R (Itc i c n) H1) : iRng3 ta σ H R := h
end Rx
namespace Rx
open PySem PySem.Spec PyProof.Rows L2 Rd
/-! ### {k: v} written out -/
theorem disp {trs : List (TE × TE)} {σ : L2.St} {H : Hp} {Q : VK} (h : ∀ (p : Addr) (G : Hp), H p = none → G p = some (.dK []) → Same H G → tPairs trs σ G fun ps H2 => H2 p = some (.dK []) ∧ ∃ kvs : List (Key × V), ps = kvs.map (fun kv => (kV kv.1, kv.2)) ∧ kvs.length ≤ 15 ∧
    ∀ G2 : Hp, G2 p = some (.dK (mergeK [] kvs)) → (∀ b, b ≠ p → G2 b = H2 b) → Q (.ref p) G2) : tDisp trs σ H Q := fun p hp => by
  have key := h p _ hp upd_same (same_upd hp)
  have mono : ∀ {trs : List (TE × TE)} {σ : L2.St} {H : Hp} {A B : List (V × V) → Hp → Prop}, A = B → tPairs trs σ H A → tPairs trs σ H B := fun e h => e ▸ h
  refine mono ?_ key
  funext ps H2
  refine propext ⟨fun ⟨a, kvs, b, c, d⟩ => ⟨a, kvs, b, c, d _ upd_same fun b hb => upd_ne hb⟩, fun ⟨a, kvs, b, c, d⟩ => ⟨a, kvs, b, c, fun G2 g off => ?_⟩⟩
  have e : G2 = upd H2 p (.dK (mergeK [] kvs)) := by
    funext x
    by_cases q : x = p
    · rw [q, g, upd_same]
    · rw [off x q, upd_ne q]
  rw [e]
  exact d
theorem pair {tk tv : TE} {r : List (TE × TE)} {σ : L2.St} {H : Hp} {Q : List (V × V) → Hp → Prop} (h : tk σ H fun x H1 => tv σ H1 fun y H2 => tPairs r σ H2 fun ps H3 => Q ((x, y) :: ps) H3) : tPairs ((tk, tv) :: r) σ H Q := h
theorem pair0 {σ : L2.St} {H : Hp} {Q : List (V × V) → Hp → Prop} (h : Q [] H) : tPairs [] σ H Q := h
theorem same_off2 {H G G2 : Hp} {p : Addr} (s : Same H G) (np : H p = none) (off : ∀ b, b ≠ p → G2 b = G b) : Same H G2 := fun b o e => by rw [off b (ne_of_none e np)]; exact s b o e
end Rx
namespace Rx
open PySem PySem.Spec PyProof.Rows L2 Rd
theorem eqI_refl {K : PySem.W.Frag} {H : Hp} {y : V} {k : Kd} (h : Is H y k) : EqI K H y y := by
  cases h with
  | non => exact .inl ⟨rfl, rfl⟩
  | bl b => exact .inl ⟨rfl, rfl⟩
  | int i => exact .inl ⟨rfl, rfl⟩
  | str l => exact .inl ⟨rfl, rfl⟩
  | lst h l => exact .inr (.inl ⟨_, rfl, rfl⟩)
  | tup h l => exact .inr (.inl ⟨_, rfl, rfl⟩)
  | dct h => exact .inr (.inl ⟨_, rfl, rfl⟩)
end Rx

/-! anything == a text. -/
namespace Be
open PySem PySem.Spec PySem.W PyProof.Rows PySem.SeqAt
open AutoSeq1 (wpAny_loadPart')
theorem dict_declines (l : Addr) (es : Array DictEntry) (n : Nat) (dd : Option Addr) (sl : Array (Option Value)) (b : Str) (u : Tok) :
    Meets (Builtin.«dict.__eq__» ⟨[.ref l, .str b u], []⟩) (fun _ R s => (l == sysModules) = false ∧ s.heap.get? l = some { cls := .type "dict", dict := dd, data := .dict es n, slots := sl } ∧ R (.ok (.ret .notImplemented)) s) :=
  .of_wp fun prog w A R s h => by obtain ⟨hp, g, d, tk, os⟩ := s; obtain ⟨hm, hl, h⟩ := h; have f1 := F.sub_str_dict; wp_walk using wpAny_loadPart' hl, wpAny_load hl; exact ⟨_, rfl, h⟩
theorem str_declines_dict (b : Str) (u : Tok) (l : Addr) (es : Array DictEntry) (n : Nat) (dd : Option Addr) (sl : Array (Option Value)) :
    Meets (Builtin.«str.__eq__» ⟨[.str b u, .ref l], []⟩) (fun _ R s => s.heap.get? l = some { cls := .type "dict", dict := dd, data := .dict es n, slots := sl } ∧ R (.ok (.ret .notImplemented)) s) :=
  .of_wp fun prog w A R s h => by obtain ⟨hp, g, d, tk, os⟩ := s; obtain ⟨hl, h⟩ := h; wp_walk using wpAny_loadPart' hl, wpAny_load hl; exact ⟨_, rfl, h⟩
theorem dict_str {A : Around} {s : Shared} {l : Addr} {o : Obj} {es : Array DictEntry} {n : Nat} (b : Str) (u : Tok) (hm : (l == sysModules) = false) (ho : s.heap.get? l = some o) (hc : o.cls = .type "dict") (hd : o.data = .dict es n) (hu : A.units < cLine) : RcAt A s (.ref l) (.str b u) false := fun prog w E Q h => by
  obtain ⟨cls, dd, data, sl⟩ := o
  simp only at hc hd
  subst hc hd
  exact rc_eq_decline_or (k := false) ⟨_, ho, rfl⟩ (typeIs_str s b u) (by decide) F.sub_str_dict F.slot_dict_eq F.slot_str_eq_refl
    (fun _ hq => call_meets F.slot_dict_eq ⟨_, ho, rfl⟩ F.entry_dict_eq (F.args_dict_eq_2 _ _) (dict_declines l es n dd sl b u) ⟨hm, ho, hq⟩)
    (fun _ hq => call_meets F.slot_str_eq_refl (typeIs_str s b u) F.entry_str_eq (F.args_str_eq_2 _ _) (str_declines_dict b u l es n dd sl) ⟨ho, hq⟩)
    (fun _ hq => wpAny_of_eq (rfl : isSame (.ref l) (.str b u) = pure false) hq) (.inr hu) h
end Be
namespace Be
open PySem PySem.Spec PyProof.Rows PySem.SeqAt L2
/-- is it this text? -/
def isT (z : Str) : Rx.Kd → Bool
  | .str w => w == z
  | _ => false
def rEqZ : R2 := fun x y H Q => ∃ k z, Rx.Is H x k ∧ y = .str z ∧ Q (.bl (isT z k)) H
theorem op_eqZ {X : Cx} (hu : X.A.units + 64 < cLine) : OpR X (compareOp .Eq) rEqZ := by
  intro pins s σ H x y v u Q I rx ry h
  obtain ⟨k, z, ix, rfl, q⟩ := h
  have hu0 : X.A.units < cLine := by omega
  obtain ⟨t, rfl⟩ := id ry
  have fin : ∀ {b : Bool}, Q (.bl b) H → EP X pins σ Q (.bool b) s := fun q => ⟨.bl _, H, I, rfl, q⟩
  cases ix with
  | non => cases rx; exact RcAt.none_str z t _ _ _ _ (fin q)
  | bl b => cases rx; exact RcAt.bool_str b z t _ _ _ _ (fin q)
  | int i => obtain ⟨t', rfl⟩ := id rx; exact RcAt.int_str i t' z t _ _ _ _ (fin q)
  | str l => obtain ⟨t', rfl⟩ := id rx; exact RcAt.str_str _ t' z t _ _ _ _ (fin q)
  | lst hk l =>
    cases rx
    obtain ⟨its, rv, ⟨o, n, e, c, _, d⟩, hz⟩ := I.list (.of hk)
    exact RcAt.list_str z t ⟨o, e, c, n, d⟩ hu0 _ _ _ _ (fin q)
  | tup hk l =>
    cases rx
    obtain ⟨its, rv, ⟨o, e, c, n, d⟩, hz⟩ := I.tuple (.of hk)
    exact RcAt.tuple_str z t ⟨o, e, c, n, d⟩ hu0 _ _ _ _ (fin q)
  | dct hk =>
    cases rx
    obtain ⟨_, sm, vs, kv, o, es, ep, h1, h2, h3, _, pr, _⟩ := dk_of I.hok hk
    exact dict_str z t sm h1 h2.1 h3 hu0 _ _ _ _ (fin q)
theorem eqZ {x : V} {k : Rx.Kd} {z : Str} {H : Hp} {Q : VK} (i : Rx.Is H x k) (q : Q (.bl (isT z k)) H) : rEqZ x (.str z) H Q := ⟨k, z, i, rfl, q⟩
/-- anything but a dict != a text -/
def rNeZ : R2 := fun x y H Q => ∃ k z, Rx.Is H x k ∧ k.isDct = false ∧ y = .str z ∧ Q (.bl (!isT z k)) H
theorem op_neZ {X : Cx} (hu : X.A.units + 64 < cLine) : OpR X (compareOp .NotEq) rNeZ := by
  intro pins s σ H x y v u Q I rx ry h
  obtain ⟨k, z, ix, dk, rfl, q⟩ := h
  have hu0 : X.A.units < cLine := by omega
  obtain ⟨t, rfl⟩ := id ry
  have fin : ∀ {b : Bool}, Q (.bl b) H → EP X pins σ Q (.bool b) s := fun q => ⟨.bl _, H, I, rfl, q⟩
  cases ix with
  | non => cases rx; exact RcNeAt.none_str z t _ _ _ _ (fin q)
  | bl b => cases rx; exact RcNeAt.bool_str b z t _ _ _ _ (fin q)
  | int i => obtain ⟨t', rfl⟩ := id rx; exact RcNeAt.int_str i t' z t _ _ _ _ (fin q)
  | str l => obtain ⟨t', rfl⟩ := id rx; exact RcNeAt.str_str _ t' z t _ _ _ _ (fin q)
  | lst hk l =>
    cases rx
    obtain ⟨its, rv, ⟨o, n, e, c, _, d⟩, hz⟩ := I.list (.of hk)
    exact RcNeAt.list_str z t ⟨o, e, c, n, d⟩ hu0 _ _ _ _ (fin q)
  | tup hk l =>
    cases rx
    obtain ⟨its, rv, ⟨o, e, c, n, d⟩, hz⟩ := I.tuple (.of hk)
    exact RcNeAt.tuple_str z t ⟨o, e, c, n, d⟩ hu0 _ _ _ _ (fin q)
  | dct hk => cases dk
theorem neZ {x : V} {k : Rx.Kd} {z : Str} {H : Hp} {Q : VK} (i : Rx.Is H x k) (d : k.isDct = false) (q : Q (.bl (!isT z k)) H) : rNeZ x (.str z) H Q := ⟨k, z, i, d, rfl, q⟩
end Be

/-! An instance made within a try: what its __init__ raises is caught here. -/
namespace Rm
open PySem PySem.Spec PyProof.Rows L2
variable {X : Cx} {CX : CXT} {k : Nat} {f C : Addr} {fd : FuncData} {ps : List Str} {sp : Sp} {E : L2.St → XK} {σ : L2.St} {H : Hp} {s : Shared} {Q : VK} {pins : List (Addr × Obj)}
theorem go {vs : List V} {us : List Value} (mk : Mk X.K C f) (ok : FnOk X.prog X.w X.K X.mg X.base CX k f fd ps sp) (room : Room (k + 1) X.A) (bd : Binds X.K fd ps []) (pa : PassesAt CX X σ (E σ)) (inv : Inv X pins σ H s) (va : Vals vs us)
    (h : Rd.MkG C sp [] (E σ) vs H Q) : wpAny (model X.prog X.w) X.A (call (.ref C) us) (EP X pins σ Q) X.xe s := by
  have free : ∀ m, s.heap.objs.size ≤ m → H m = none := fun m l => inv.hok.fresh l
  have q := h _ _ (free (s.heap.objs.size + 1) (by omega)) (free s.heap.objs.size (by omega)) (fun e => Nat.lt_irrefl _ (Nat.lt_of_lt_of_eq (Nat.lt_succ_self s.heap.objs.size) e.symm))
  rw [List.append_nil] at q
  have inv' := inv.made (C := C)
  have va' : Vals (V.ref (s.heap.objs.size + 1) :: vs) (Value.ref (s.heap.objs.size + 1) :: us) := .cons rfl va
  have bd' := bd _ (Value.ref (s.heap.objs.size + 1) :: us) inv'.kIn (by rw [List.append_nil, ← va'.length]; exact ok.len _ _ _ _ q)
  rw [List.append_nil] at bd'
  have run := ok.run _ X.stack _ _ ⟨Value.ref (s.heap.objs.size + 1) :: us, []⟩ _ _ _ (E σ) (room.make C us []) (inv'.env0.make C us []) bd' va' q
  refine wpAny_call (make_map (f := f) inv.kIn mk.makes mk.init (beq_iff_eq.mp mk.fn) (codeAny_mono run fun end_ s' fin => ?_))
  match end_, fin with
  | .error e, fin => exact pa pins _ _ e s' inv' fin
  | .ok (.ret u), fin =>
    obtain ⟨v, H', inv2, rv, ev, last⟩ := inv'.after fin
    subst ev
    exact ⟨rv, ⟨V.ref (s.heap.objs.size + 1), H', inv2, rfl, last⟩⟩
  | .ok .next, fin => exact fin.elim
  | .ok .brk, fin => exact fin.elim
  | .ok .cont, fin => exact fin.elim
/-- C(e, ..), the ends of __init__ as E tells them of the state -/
def tMakeS (C : Addr) (sp : Sp) (E : L2.St → XK) (t : TA) : TE := fun σ H Q => t σ H fun vs H1 => Rd.MkG C sp [] (E σ) vs H1 Q
theorem mkH {t : TA} (h : t σ H fun vs H1 => Rd.MkG C sp [] (E σ) vs H1 Q) : tMakeS C sp E t σ H Q := h
theorem pe_makeS {x : Str} {p pos : Pos} {e : Expr} {es : List Expr} {t : TA} (mk : Mk X.K C f) (ok : FnOk X.prog X.w X.K X.mg X.base CX k f fd ps sp) (room : Room (k + 1) X.A) (gl : Gl X x) (at_ : X.mg x = some (.ref C)) (bd : Binds X.K fd ps []) (pa : ∀ σ, PassesAt CX X σ (E σ))
    (args : PA X (e :: es) t) (d1 : (x == ("__debug__" : Str)) = false := by decide) (d2 : starEach (e :: es) X.env = (false, eval e X.env) :: starEach es X.env := by rfl) (d3 : (backTo pos (starEach es X.env)).any (·.1) = false := by rfl) :
    PE X (.Call (.Name x p) (e :: es) [] pos) (tMakeS C sp E t) :=
  ⟨fun pins s σ H Q inv h => wpAny_Call_Name_kw (ld_glob inv gl at_ (PySem.W.callWith_K (h₀ := X.base) inv.ok.mod.kin mk.kp (thn (args.run pos pins s σ H _ inv h) fun us s1 ⟨vs, H1, inv1, va, q⟩ => ⟨inv1.kIn, go mk ok room bd (pa σ) inv1 va q⟩) d2 d3) d1)⟩
end Rm

/-! The number of unlike texts: len(set(xs)) where no text stands twice. -/
namespace Re
open PySem PySem.Spec PyProof.Rows L2
section
variable {prog : Program} {w : World} {A : Around} {R : Result → Shared → Prop} {I : Addr} {fp wr : List Addr} {G : Array GenState → Array GenState → Prop} {P : Nat → Value → Prop} {St : Nat → Shared → Prop}
def Upto (xs : List Str) (i : Nat) : Str → Bool := fun y => (xs.take i).any (· == y)
theorem upto_step {xs : List Str} {i : Nat} {x : Str} (h : xs[i]? = some x) (y : Str) : (Upto xs i y || decide (y = x)) = Upto xs (i + 1) y := by
  unfold Upto
  rw [Rd.take_snoc h, List.any_append, Bool.eq_iff_iff]
  simp only [Bool.or_eq_true, decide_eq_true_eq, List.any_cons, List.any_nil, Bool.or_false, beq_iff_eq]
  exact or_congr_right eq_comm
theorem upto_new {xs : List Str} {i : Nat} {x : Str} (nd : xs.Nodup) (h : xs[i]? = some x) : Upto xs i x = false := by
  refine Bool.eq_false_iff.mpr fun q => ?_
  obtain ⟨y, m, e⟩ := List.any_eq_true.mp q
  rw [beq_iff_eq] at e
  subst e
  exact Rd.nodup_take nd h m
/-- how many unlike texts stand ahead of place i -/
def cnt (xs : List Str) : Nat → Nat
  | 0 => 0
  | i + 1 => match xs[i]? with
    | some x => if Upto xs i x = true then cnt xs i else cnt xs i + 1
    | none => cnt xs i
theorem cnt_step {xs : List Str} {i : Nat} {x : Str} (h : xs[i]? = some x) : cnt xs (i + 1) = if Upto xs i x = true then cnt xs i else cnt xs i + 1 := by
  show (match xs[i]? with | some x => if Upto xs i x = true then cnt xs i else cnt xs i + 1 | none => cnt xs i) = _
  rw [h]
theorem cnt_le (xs : List Str) : ∀ i, cnt xs i ≤ i
  | 0 => Nat.le_refl _
  | i + 1 => by
    have ih := cnt_le xs i
    cases h : xs[i]? with
    | some x =>
      rw [cnt_step h]
      split
      · exact Nat.le_succ_of_le ih
      · exact Nat.succ_le_succ ih
    | none =>
      show (match xs[i]? with | some x => if Upto xs i x = true then cnt xs i else cnt xs i + 1 | none => cnt xs i) ≤ _
      rw [h]
      exact Nat.le_succ_of_le ih
theorem cnt_nodup {xs : List Str} (nd : xs.Nodup) : ∀ i, i ≤ xs.length → cnt xs i = i
  | 0, _ => rfl
  | i + 1, h => by
    rw [cnt_step (List.getElem?_eq_getElem h), upto_new nd (List.getElem?_eq_getElem h), if_neg Bool.false_ne_true, cnt_nodup nd i (by omega)]
theorem cnt_dup {xs : List Str} : ∀ i, i ≤ xs.length → cnt xs i = i → (xs.take i).Nodup
  | 0, _, _ => by simp
  | i + 1, h, e => by
    have hx := List.getElem?_eq_getElem (show i < xs.length from h)
    have le := cnt_le xs i
    rw [cnt_step hx] at e
    by_cases c : Upto xs i xs[i] = true
    · rw [if_pos c] at e
      omega
    · rw [if_neg c] at e
      rw [Rd.take_snoc hx]
      refine List.nodup_append.mpr ⟨cnt_dup i (by omega) (by omega), by simp, fun a ha b hb q => c ?_⟩
      rw [List.mem_singleton.mp hb] at q
      exact List.any_eq_true.mpr ⟨a, ha, by rw [q]; exact beq_self_eq_true _⟩
/-- the loop that fills a set with texts -/
theorem fill {xs : List Str} (W : WalksS prog w A.in1 I fp wr G xs.length P St) (D : Addr) (out : D ∉ fp) (room : xs.length + 1 < scanBound)
    (val : ∀ i v, P i v → ∃ x t, xs[i]? = some x ∧ v = .str x t) (left : Nat) : ∀ (i : Nat) (s : Shared), xs.length - i = left → i ≤ xs.length → St i s → s.heap.SetOf (strKind prog w) D (Upto xs i) (cnt xs i) →
      (∀ s', Moved (D :: wr) G s s' → s'.heap.SetOf (strKind prog w) D (Upto xs xs.length) (cnt xs xs.length) → R (.ok (.ret .none)) s') → codeAny (model prog w) A (.builtin "set.update.loop" ⟨[.ref D, .ref I], []⟩) R s := by
  have more : ∀ b ∈ wr, b ∈ D :: wr := fun b h => .tail _ h
  have stay : ∀ {s s' : Shared} {i : Nat}, Moved wr G s s' → s.heap.SetOf (strKind prog w) D (Upto xs i) (cnt xs i) → s'.heap.SetOf (strKind prog w) D (Upto xs i) (cnt xs i) :=
    fun m ⟨o, es, ep, t, h, r⟩ => ⟨o, es, ep, t, m.heap D _ (fun z => out (W.sub _ z)) h, r⟩
  induction left with
  | zero =>
    intro i s e le st hD k
    obtain rfl : i = xs.length := by omega
    refine codeAny_builtin F.entry_set_update_loop ?_
    rw [Around.under_plainId F.plain_set_update_loop _]
    show wpAny _ A.in1 (pyNext (.ref I) >>= _) _ _ s
    exact wpAny_bind (W.done s _ _ st fun s' m => wpAny_pure (k s' (m.mono more) (stay m hD)))
  | succ left ih =>
    intro i s e le st hD k
    have lt : i < xs.length := by omega
    refine codeAny_builtin F.entry_set_update_loop ?_
    rw [Around.under_plainId F.plain_set_update_loop _]
    show wpAny _ A.in1 (pyNext (.ref I) >>= _) _ _ s
    refine wpAny_bind (W.item i s _ _ lt st fun v s' hv st' m => ?_)
    obtain ⟨x, t, hx, rfl⟩ := val i v hv
    have hD' := stay m hD
    show wpAny _ A.in1 (holding [Value.str x t] (setAdd D (.str x t)) >>= _) _ _ s'
    refine wpAny_bind (wpAny_holding ?_)
    unfold setAdd
    refine wpAny_holding (wpAny_bind ((strKind prog w).pyHash (k := x) (strKind_is _ _ _ _) ?_))
    refine wpAny_setAddHashed_of (knd := strKind prog w) (s := { s' with toks := s'.toks + 1 }) (strKind_is _ _ _ _) rfl hD' (by have := cnt_le xs i; omega) fun h' but hN => ?_
    rw [← cnt_step hx] at hN
    refine wpAny_pure ⟨plainId_quiet F.plain_set_update_loop _, ih (i + 1) _ (by omega) lt (W.frame _ s' _ _ st' (Nat.le_succ _) fun b hb o e => ?_) (SetOf_congr hN (upto_step hx) rfl) fun s2 m2 hS2 => ?_⟩
    · rw [but.2 b fun q => out (q ▸ hb)]
      exact e
    · refine k s2 (Moved.trans W.gtrans ((m.mono more).then_heap (Nat.le_succ _) fun b o hb e => ?_) m2) hS2
      rw [but.2 b fun q => hb (q ▸ .head _)]
      exact e
end
section
variable {prog : Program} {w : World} {A : Around} {E : Value → Shared → Prop} {s : Shared}
def bareSet (led : Bool) : Obj := { cls := .type "set", dict := none, data := .set #[] 0 (.fresh 0 0 led) }
/-- what set(..) leaves -/
def Left (prog : Program) (w : World) (s : Shared) (xs : List Str) (s' : Shared) : Prop := ∃ (h' : Heap) (tk : Nat), s' = { s with heap := h', toks := tk } ∧ h'.SetOf (strKind prog w) s.heap.objs.size (Upto xs xs.length) (cnt xs xs.length) ∧ ∀ b o, b < s.heap.objs.size → s.heap.get? b = some o → h'.get? b = some o
theorem bare_of {h : Heap} {a : Addr} {led : Bool} (e : h.get? a = some (bareSet led)) (xs : List Str) : h.SetOf (strKind prog w) a (Upto xs 0) 0 :=
  SetOf_congr ((setObjOf_fresh (knd := strKind prog w) led).setOf e (by unfold scanBound; omega)) (fun _ => rfl) rfl
/-- set.__init__ over a list of unlike texts -/
theorem fill_list {led : Bool} {l : Addr} {items : Array Value} {xs : List Str} (hh : A.handled = none) (hl : s.heap.IsList l items) (hi : StrsAre items.toList xs) (room : xs.length + 1 < scanBound) {Q : PySem.Fin → Shared → Prop}
    (h : ∀ s', Left prog w s xs s' → wpAny (model prog w) A (ret Value.none) Q E s') :
    wpAny (model prog w) A (Builtin.«set.__init__» ⟨[.ref s.heap.objs.size, .ref l], []⟩) Q E { s with heap := s.heap.push (bareSet led) } := by
  have hD : (s.heap.push (bareSet led)).get? s.heap.objs.size = some (bareSet led) := Heap.get?_push_size _ rfl
  have hT : Shared.TypeIs { s with heap := s.heap.push (bareSet led) } (.ref s.heap.objs.size) "set" := ⟨_, hD, rfl⟩
  have big : l < s.heap.objs.size := let ⟨_, e, _⟩ := hl; Heap.lt_size e
  have hl1 : (s.heap.push (bareSet led)).IsList l items := hl.push _
  obtain ⟨ol, hol, hcl, nl, hdl⟩ := hl1
  obtain ⟨ocls, odict, odata, oslots⟩ := ol
  simp only at hcl hdl
  subst hcl
  subst hdl
  have hsls := PySem.F.sub_list_set
  have hslf := PySem.F.sub_list_frozenset
  have hne : (Value.type "list" == Value.type "dict") = false := by decide
  have hl1 : (s.heap.push (bareSet led)).IsList l items := hl.push _
  unfold Builtin.«set.__init__» noKeywords Builtin.Frozenset.updateFrom
  generalize hPI : pyIter = PI
  wp_walk
  subst hPI
  have hz : (s.heap.push (bareSet led)).objs.size = s.heap.objs.size + 1 := Heap.size_push ..
  have n1 : l ≠ (s.heap.push (bareSet led)).objs.size := by rw [hz]; exact Nat.ne_of_lt (Nat.lt_succ_of_lt big)
  have sz : xs.length = items.size := by rw [← StrsAre.len_eq hi, Array.length_toList]
  have val : ∀ (i : Nat) (v : Value), items[i]? = some v → ∃ x t, xs[i]? = some x ∧ v = .str x t := fun i v hv => by
    obtain ⟨t, e⟩ := SS.strs_at hi i v (by rw [Array.getElem?_toList]; exact hv)
    have lt : i < xs.length := by rw [sz]; exact (Array.getElem?_eq_some_iff.mp hv).1
    refine ⟨xs[i], t, List.getElem?_eq_getElem lt, ?_⟩
    rw [e, List.getD_eq_getElem?_getD, List.getElem?_eq_getElem lt]
    rfl
  refine wpAny_pyIter_list hl1 (wpAny_bind (wpAny_runValue ?_))
  have hh1 : A.in1.handled = none := by simp [hh]
  have W := (Walks.list (prog := prog) (w := w) hh1 _ l n1 items).toS
  rw [← sz] at W
  refine fill W s.heap.objs.size (by rw [hz, List.mem_cons, List.mem_singleton, not_or]; exact ⟨Nat.ne_of_lt (Nat.lt_succ_self _), Nat.ne_of_gt big⟩) room val (xs.length - 0) 0 _ rfl (Nat.zero_le _) ⟨⟨_, Heap.get?_push_size _ rfl, rfl, rfl⟩, hl1.push _⟩ (bare_of (led := led) (Heap.get?_push_of_some _ hD) xs) ?_
  intro s' m hS'
  refine wpAny_pure (h s' ⟨s'.heap, s'.toks, ?_, hS', fun b o lt e => m.heap b o ?_ (Heap.get?_push_of_some _ (Heap.get?_push_of_some _ e))⟩)
  · obtain ⟨h', g', d', tk', os'⟩ := s'
    have e1 : g' = s.gens := m.gens
    have e2 : d' = s.drawn := m.drawn
    have e3 : os' = s.os := m.os
    rw [e1, e2, e3]
  · rw [hz, List.mem_cons, List.mem_singleton, not_or]
    exact ⟨Nat.ne_of_lt lt, Nat.ne_of_lt (Nat.lt_succ_of_lt lt)⟩
/-- set(xs) -/
theorem call_set {l : Addr} {items : Array Value} {xs : List Str} {Q : Value → Shared → Prop} (hh : A.handled = none) (hl : s.heap.IsList l items) (hi : StrsAre items.toList xs) (room : xs.length + 1 < scanBound)
    (h : ∀ s', Left prog w s xs s' → Q (.ref s.heap.objs.size) s') : wpAny (model prog w) A (call (.type "set") [.ref l]) Q E s := by
  obtain ⟨c, tl, hmro⟩ := PySem.F.called_set.mro
  have hmade := PySem.F.called_set.made
  have hsub := PySem.F.called_set.sub
  refine wpAny_call (codeAny_of_tree ?_)
  show wpAny _ _ (callAny (.type "set") _) _ _ _
  refine wpAny_pure ⟨Code.quiet_builtin _ (by decide +kernel), codeAny_builtin PySem.F.entry_type_call ?_⟩
  rw [Around.under_plain (weight_type_call_type "set" [.ref l] []) rfl]
  have h1 := PySem.F.called_set.notType
  have h2 := PySem.F.called_set.canCreate
  have hct := PySem.F.typeCall_set_1 (.ref l)
  repeat (any_goals (first | assumption | wp_step))
  refine codeAny_mono (code_set_new_1 (.ref l) (E := E) (Q₁ := fun y s1 => ∃ led : Bool, y = .ref s.heap.objs.size ∧ s1 = { s with heap := s.heap.push (bareSet led) }) fun led => ⟨led, rfl, rfl⟩) fun r s1 hr => ?_
  match r, hr with
  | .ok (.ret y), ⟨led, hy, hs⟩ =>
    subst hy
    subst hs
    have hD : (s.heap.push (bareSet led)).get? s.heap.objs.size = some (bareSet led) := Heap.get?_push_size _ rfl
    have hT : Shared.TypeIs { s with heap := s.heap.push (bareSet led) } (.ref s.heap.objs.size) "set" := ⟨_, hD, rfl⟩
    have hli := PySem.F.called_set.init.lookup
    have hbi := PySem.F.called_set.init.bind (.ref s.heap.objs.size)
    repeat (any_goals (first | assumption | wp_step))
    refine codeAny_mono (codeAny_call_builtin (R := wants (fun r s2 => r = .none ∧ Left prog w s xs s2) E) PySem.F.called_set.init.plain PySem.F.entry_set_init (check_set_init_1 hT ?_)) fun r2 s2 hr2 => ?_
    · refine fill_list (by simp [hh]) hl hi room fun s' hL => ?_
      exact wpAny_pure ⟨rfl, hL⟩
    · match r2, hr2 with
      | .ok (.ret v), ⟨hv, hL⟩ =>
        subst hv
        repeat (any_goals (first | assumption | wp_step))
        exact h _ hL
      | .error e, q => exact q
  | .error e, q => exact q
/-- len(set(xs)) -/
def tLenSetA (K : PySem.W.Frag) (ta : TE) : TE := fun σ H Q => ta σ H fun x H1 => ∃ (l : Addr) (xs : List Str), x = .ref l ∧ SqL K H1 l (xs.map V.str) ∧ xs.length ≤ 1000 ∧ Q (.int (cnt xs xs.length)) H1
theorem lenSetA {K : PySem.W.Frag} {σ : L2.St} {H : Hp} {ta : TE} {Q : VK} (h : ta σ H fun x H1 => ∃ (l : Addr) (xs : List Str), x = .ref l ∧ SqL K H1 l (xs.map V.str) ∧ xs.length ≤ 1000 ∧ Q (.int (cnt xs xs.length)) H1) : tLenSetA K ta σ H Q := h
/-- no text of xs twice -/
def tLenSet (K : PySem.W.Frag) (ta : TE) : TE := fun σ H Q => ta σ H fun x H1 => ∃ (l : Addr) (xs : List Str), x = .ref l ∧ SqL K H1 l (xs.map V.str) ∧ xs.Nodup ∧ xs.length ≤ 1000 ∧ Q (.int xs.length) H1
theorem lenSet {K : PySem.W.Frag} {σ : L2.St} {H : Hp} {ta : TE} {Q : VK} (h : ta σ H fun x H1 => ∃ (l : Addr) (xs : List Str), x = .ref l ∧ SqL K H1 l (xs.map V.str) ∧ xs.Nodup ∧ xs.length ≤ 1000 ∧ Q (.int xs.length) H1) : tLenSet K ta σ H Q := h
end
section
variable {X : Cx}
theorem pe_lenSet {a : Expr} {ta : TE} {p p2 q pos : Pos} (hc : X.calm = true) (hg : Gl X "len") (hm : X.mg "len" = none) (hg2 : Gl X "set") (hm2 : X.mg "set" = none) (ha : PE X a ta)
    (na : starEach [a] X.env = (false, eval a X.env) :: starEach [] X.env := by rfl) : PE X (.Call (.Name "len" p) [.Call (.Name "set" p2) [a] [] q] [] pos) (tLenSet X.K ta) := by
  refine ⟨fun pins s σ H Q I h => Call_ (ld_blt I hg hm boot_len (callWith_builtin1 (args_cons (Call_ (ld_blt I hg2 hm2 boot_set (callWith_type1 (args_cons (thn (ha.run pins s σ H _ I h) fun v s1 ⟨x, H1, I1, r1, q1⟩ => args_nil ?_) na) na rfl))) rfl) rfl rfl))⟩
  obtain ⟨l, xs, rfl, hq, nd, few, q1⟩ := q1
  cases r1
  obtain ⟨its, r, pl, hz⟩ := I1.list hq
  refine call_set (I1.ok.hd hc) pl.isList (by simpa using strsAre_of r) (by unfold scanBound; omega) ?_
  rintro _ ⟨h', tk, rfl, hS, keep⟩
  refine args_nil ?_
  obtain ⟨o, es, ep, t, ho, hex, hd, _, _, _, hf, hn⟩ := hS
  have I2 : Inv X pins σ H1 { s1 with heap := h', toks := tk } := I1.kept fun b o e => keep b o (Heap.lt_size e) e
  rw [cnt_nodup nd _ (Nat.le_refl _)] at hn
  exact call_len_set ho hex hd hf (by rw [hn]; omega) ⟨.int xs.length, H1, I2.tok _, ⟨_, by rw [hn]⟩, q1⟩
theorem pe_lenSetA {a : Expr} {ta : TE} {p p2 q pos : Pos} (hc : X.calm = true) (hg : Gl X "len") (hm : X.mg "len" = none) (hg2 : Gl X "set") (hm2 : X.mg "set" = none) (ha : PE X a ta)
    (na : starEach [a] X.env = (false, eval a X.env) :: starEach [] X.env := by rfl) : PE X (.Call (.Name "len" p) [.Call (.Name "set" p2) [a] [] q] [] pos) (tLenSetA X.K ta) := by
  refine ⟨fun pins s σ H Q I h => Call_ (ld_blt I hg hm boot_len (callWith_builtin1 (args_cons (Call_ (ld_blt I hg2 hm2 boot_set (callWith_type1 (args_cons (thn (ha.run pins s σ H _ I h) fun v s1 ⟨x, H1, I1, r1, q1⟩ => args_nil ?_) na) na rfl))) rfl) rfl rfl))⟩
  obtain ⟨l, xs, rfl, hq, few, q1⟩ := q1
  cases r1
  obtain ⟨its, r, pl, hz⟩ := I1.list hq
  refine call_set (I1.ok.hd hc) pl.isList (by simpa using strsAre_of r) (by unfold scanBound; omega) ?_
  rintro _ ⟨h', tk, rfl, hS, keep⟩
  refine args_nil ?_
  obtain ⟨o, es, ep, t, ho, hex, hd, _, _, _, hf, hn⟩ := hS
  have I2 : Inv X pins σ H1 { s1 with heap := h', toks := tk } := I1.kept fun b o e => keep b o (Heap.lt_size e) e
  have cl := cnt_le xs xs.length
  exact call_len_set ho hex hd hf (by rw [hn]; omega) ⟨.int (cnt xs xs.length), H1, I2.tok _, ⟨_, by rw [hn]⟩, q1⟩
end
/-! ### list(text) -/
theorem vals_get : ∀ {xs : List V} {us : List Value}, xs.length = us.length → (∀ (i : Nat) (x : V) (u : Value), xs[i]? = some x → us[i]? = some u → RelV x u) → Vals xs us
  | [], [], _, _ => .nil
  | x :: xs, u :: us, l, h => .cons (h 0 x u rfl rfl) (vals_get (by simpa using l) fun i y v a b => h (i + 1) y v (by simpa using a) (by simpa using b))
def Signs (z : Str) : List Str := z.cps.toList.map fun c => (⟨#[c]⟩ : Str)
def rListStr : List V → Hp → VK → Prop := fun xs H Q => ∃ z : Str, xs = [.str z] ∧ z.length ≤ sizeLine ∧ Rd.NewQ (.lst ((Signs z).map V.str)) Q H
theorem listStr {z : Str} {H : Hp} {Q : VK} (l : z.length ≤ sizeLine) (h : Rd.NewQ (.lst ((Signs z).map V.str)) Q H) : rListStr [.str z] H Q := ⟨z, rfl, l, h⟩
section
variable {X : Cx}
theorem cr_listStr (hc : X.calm = true) : CallR X (.type "list") rListStr := by
  intro pins s σ H xs us Q I r h
  obtain ⟨z, rfl, l, q⟩ := h
  cases r with
  | cons ry rt =>
    cases rt
    obtain ⟨t, rfl⟩ := ry
    refine call_list_str (I.ok.hd hc) z t (fun h' tk acc c keep e its => ?_) l
    have sz : ((Signs z).map V.str).length = acc.toList.length := by
      unfold Signs
      rw [List.length_map, List.length_map, Array.length_toList, Array.length_toList, its.1]
    have v : Vals ((Signs z).map V.str) acc.toList := vals_get sz fun i x u hx hu => by
      obtain ⟨d, k, hd, rfl⟩ := its.2 i u (by rw [← Array.getElem?_toList]; exact hu)
      unfold Signs at hx
      rw [List.getElem?_map, List.getElem?_map, Array.getElem?_toList, hd] at hx
      cases hx
      exact ⟨k, rfl⟩
    have few : ((Signs z).map V.str).length ≤ sizeLine := by
      unfold Signs
      rw [List.length_map, List.length_map]
      exact l
    exact ⟨.ref s.heap.objs.size, _, I.laid (t' := tk) keep (Nat.le_refl _) (show ObjOk X.prog X.w _ h' _ (.lst ((Signs z).map V.str)) from ⟨few, acc.toList, c, v, e⟩), rfl, q _ (I.hok.fresh (Nat.le_refl _))⟩
end
/-! ### comprehensions with two fors -/
section
variable {σ : L2.St}
def Inner (D : Addr) (H1 : Hp) (R : Nat → List V → Hp → Prop) (i : Nat) (g1 : TG) (tt1 : TT) (te : TE) (vs1 : List Nat) (σ2 : L2.St) (J1 : It) (H4 : Hp) : Prop := ∃ W1 : Nat → Nat → Hp → Prop, (∃ m, W1 0 m H4) ∧ ∀ j k H, W1 j k H →
  (J1.stop j H ∧ Rd.LcP D H1 R (i + 1) H) ∨ (J1.go j H ∧ ∃ Nx1 : Hp → Prop, (∀ H', Nx1 H' → ∃ k', k' < k ∧ W1 (j + 1) k' H') ∧ ∀ x H', J1.yld j H x H' → g1 x (wipe σ2 vs1) H' fun σ3 H5 => wipe σ3 vs1 = wipe σ2 vs1 ∧ tt1 σ3 H5 fun b H6 =>
    if b = true then te σ3 H6 fun y H7 => ∃ acc, H7 D = some (.lst acc) ∧ acc.length < sizeLine ∧ Nx1 (upd H7 D (.lst (acc ++ [y]))) else Nx1 H6)
def Lc2 (J : It) (g : TG) (tt : TT) (wi1 : TI) (g1 : TG) (tt1 : TT) (te : TE) (vs vs1 : List Nat) (σ : L2.St) (H1 : Hp) (Q : VK) : Prop := ∀ D, H1 D = none → ∃ W : Nat → Nat → Hp → Prop, (∃ m, W 0 m (upd H1 D (.lst []))) ∧ ∀ i m H, W i m H →
      (J.stop i H ∧ Q (.ref D) H) ∨ (J.go i H ∧ ∃ Nx : Hp → Prop, (∀ H', Nx H' → ∃ m', m' < m ∧ W (i + 1) m' H') ∧ ∀ x H', J.yld i H x H' → g x (wipe σ vs) H' fun σ2 H2 => wipe σ2 vs = wipe σ vs ∧ tt σ2 H2 fun b H3 =>
        if b = true then wi1 σ2 H3 fun J1 H4 => ∃ W1 : Nat → Nat → Hp → Prop, (∃ m, W1 0 m H4) ∧ ∀ j k H, W1 j k H →
          (J1.stop j H ∧ Nx H) ∨ (J1.go j H ∧ ∃ Nx1 : Hp → Prop, (∀ H', Nx1 H' → ∃ k', k' < k ∧ W1 (j + 1) k' H') ∧ ∀ x H', J1.yld j H x H' → g1 x (wipe σ2 vs1) H' fun σ3 H5 => wipe σ3 vs1 = wipe σ2 vs1 ∧ tt1 σ3 H5 fun b H6 =>
            if b = true then te σ3 H6 fun y H7 => ∃ acc, H7 D = some (.lst acc) ∧ acc.length < sizeLine ∧ Nx1 (upd H7 D (.lst (acc ++ [y]))) else Nx1 H6)
        else Nx H3)
theorem lc2S {J : It} {n : Nat} {G : Hp → Prop} {Y : Nat → Hp → V → Hp → Prop} (w : Walk J n G Y) {g : TG} {tt : TT} {wi1 : TI} {g1 : TG} {tt1 : TT} {te : TE} {vs vs1 : List Nat} {H1 : Hp} {Q : VK} (hG : ∀ H, Same H1 H → G H) (R : Addr → Nat → List V → Hp → Prop)
    (r0 : ∀ (D : Addr) (G : Hp), H1 D = none → G D = some (.lst []) → Same H1 G → R D 0 [] G)
    (hs : ∀ (D : Addr) i x H H' acc, H1 D = none → i < n → H D = some (.lst acc) → Same H1 H → R D i acc H → Y i H x H' → g x (wipe σ vs) H' fun σ2 H2 => wipe σ2 vs = wipe σ vs ∧ tt σ2 H2 fun b H3 =>
      if b = true then wi1 σ2 H3 fun J1 H4 => Inner D H1 (R D) i g1 tt1 te vs1 σ2 J1 H4 else Rd.LcP D H1 (R D) (i + 1) H3)
    (hd : ∀ (D : Addr) acc H, H1 D = none → H D = some (.lst acc) → Same H1 H → R D n acc H → Q (.ref D) H) :
    Lc2 J g tt wi1 g1 tt1 te vs vs1 σ H1 Q := by
  intro D nD
  refine ⟨fun i m H => m = n - i ∧ i ≤ n ∧ Rd.LcP D H1 (R D) i H, ⟨n, by simp, Nat.zero_le _, [], upd_same, Rd.same_upd nD, r0 D _ nD upd_same (Rd.same_upd nD)⟩, ?_⟩
  rintro i m H ⟨rfl, hi, acc, h1, h2, h3⟩
  by_cases lt : i < n
  · exact .inr ⟨w.goes i H lt (hG H h2), Rd.LcP D H1 (R D) (i + 1), fun H' p => ⟨n - (i + 1), by omega, rfl, lt, p⟩, fun x H' y => hs D i x H H' acc nD lt h1 h2 h3 (w.yields i H x H' lt (hG H h2) y)⟩
  · obtain rfl : i = n := by omega
    exact .inl ⟨w.stops H (hG H h2), hd D acc H nD h1 h2 h3⟩
theorem innerS {D : Addr} {H1 H4 : Hp} {R : Nat → List V → Hp → Prop} {i : Nat} {g1 : TG} {tt1 : TT} {te : TE} {vs1 : List Nat} {σ2 : L2.St} {J1 : It} {n : Nat} {G : Hp → Prop} {Y : Nat → Hp → V → Hp → Prop} (w : Walk J1 n G Y) (R1 : Nat → List V → Hp → Prop) (h0 : Rd.LcP D H1 R1 0 H4) (hG : ∀ H, Same H1 H → G H)
    (hs : ∀ j x H H' acc, j < n → H D = some (.lst acc) → Same H1 H → R1 j acc H → Y j H x H' → g1 x (wipe σ2 vs1) H' fun σ3 H5 => wipe σ3 vs1 = wipe σ2 vs1 ∧ tt1 σ3 H5 fun b H6 =>
      if b = true then te σ3 H6 fun y H7 => Rd.LcPush D H1 R1 j y H7 else Rd.LcP D H1 R1 (j + 1) H6)
    (hd : ∀ acc H, H D = some (.lst acc) → Same H1 H → R1 n acc H → R (i + 1) acc H) : Inner D H1 R i g1 tt1 te vs1 σ2 J1 H4 := by
  refine ⟨fun j k H => k = n - j ∧ j ≤ n ∧ Rd.LcP D H1 R1 j H, ⟨n, by simp, Nat.zero_le _, h0⟩, ?_⟩
  rintro j k H ⟨rfl, hj, acc, h1, h2, h3⟩
  by_cases lt : j < n
  · exact .inr ⟨w.goes j H lt (hG H h2), Rd.LcP D H1 R1 (j + 1), fun H' p => ⟨n - (j + 1), by omega, rfl, lt, p⟩, fun x H' y => hs j x H H' acc lt h1 h2 h3 (w.yields j H x H' lt (hG H h2) y)⟩
  · obtain rfl : j = n := by omega
    exact .inl ⟨w.stops H (hG H h2), acc, h1, h2, hd acc H h1 h2 h3⟩
theorem lc2 {wi : TI} {g : TG} {tt : TT} {wi1 : TI} {g1 : TG} {tt1 : TT} {te : TE} {vs vs1 : List Nat} {H : Hp} {Q : VK} (h : wi σ H fun J H1 => Lc2 J g tt wi1 g1 tt1 te vs vs1 σ H1 Q) : tLc2 wi g tt wi1 g1 tt1 te vs vs1 σ H Q := h
end
/-! ### text[::-1] -/
def revS (z : Str) : Str := ⟨z.cps.reverse⟩
theorem revS_list (z : Str) : (revS z).cps.toList = z.cps.toList.reverse := by
  unfold revS
  simp
theorem rev_by (z : Str) (u : Tok) : Txt.sliceBy z none none (-1, u) = revS z := by
  refine PySem.W.str_of_cps ?_
  rw [step_rev_list, revS_list]
  refine List.ext_getElem? fun i => ?_
  rw [List.getElem?_map]
  rcases Nat.lt_or_ge i z.length with h | h
  · have l : z.cps.toList.length = z.length := Array.length_toList
    rw [List.getElem?_range h, List.getElem?_reverse (by omega), l, Array.getElem?_toList]
    have h2 : z.length - 1 - i < z.cps.size := by
      show _ < z.length
      omega
    simp [Array.getD, h2]
  · have l : z.cps.toList.length = z.length := Array.length_toList
    rw [List.getElem?_eq_none (by rw [List.length_range]; exact h), List.getElem?_eq_none (by rw [List.length_reverse]; omega)]
    rfl
def tRevS (te : TE) : TE := fun σ H Q => te σ H fun x H1 => ∃ z, x = .str z ∧ z.length ≤ sizeLine ∧ Q (.str (revS z)) H1
theorem revT {σ : L2.St} {te : TE} {H : Hp} {Q : VK} (h : te σ H fun x H1 => ∃ z, x = .str z ∧ z.length ≤ sizeLine ∧ Q (.str (revS z)) H1) : tRevS te σ H Q := h
section
variable {X : Cx}
theorem pe_revS {e : Expr} {te : TE} {k : Nat} {p1 p2 p3 pos : Pos} (he : PE X e te) : PE X (.Subscript e (.Slice none none (some (.UnaryOp .USub (.Constant (.int 1) k p1) p2)) p3) pos) (tRevS te) := by
  refine ⟨fun pins s σ H Q I h => Subscript_ (thn (he.run pins s σ H _ I h) fun v s1 ⟨x, H1, I1, r1, z, ex, few, q⟩ => ?_)⟩
  subst ex
  obtain ⟨t, rfl⟩ := r1
  have minus : PO X (some (.UnaryOp .USub (.Constant (.int 1) k p1) p2)) (tPart (tUn (rU fun i => .int (-i)) (tC (.int 1)))) := po_some (pe_un un_neg pe_int)
  refine wpAny_Slice (thn (po_none.run pins s1 σ H1 (fun o H2 => o = none ∧ H2 = H1) I1 ⟨rfl, rfl⟩) fun vl s2 ⟨l, H2, I2, pl, el, e2⟩ => ?_)
  subst el e2
  refine thn (po_none.run pins s2 σ H2 (fun o H3 => o = none ∧ H3 = H2) I2 ⟨rfl, rfl⟩) fun vu s3 ⟨u, H3, I3, pu, eu, e3⟩ => ?_
  subst eu e3
  refine thn (minus.run pins s3 σ H3 (fun o H4 => o = some (-1) ∧ H4 = H3) I3 ⟨1, rfl, -1, rfl, rfl, rfl⟩) fun vs s4 ⟨o, H4, I4, ps, eo, e4⟩ => ?_
  subst eo e4
  have I5 : Inv X pins σ H4 { s4 with heap := s4.heap.push { cls := .type "slice", data := .fields #[vl, vu, vs] } } := I4.kept (t' := s4.toks) fun b ob q => Heap.get?_push_of_some _ q
  obtain ⟨a1, rfl, h1⟩ := IsPart.raw pl
  obtain ⟨a2, rfl, h2⟩ := IsPart.raw pu
  obtain ⟨a3, rfl, h3⟩ := IsPart.raw ps
  obtain rfl : a1 = none := Option.map_eq_none_iff.mp h1
  obtain rfl : a2 = none := Option.map_eq_none_iff.mp h2
  obtain ⟨⟨m, uk⟩, rfl, rfl⟩ := Option.map_eq_some_iff.mp h3
  refine tail_any (ops := [.ref s4.heap.objs.size, .str z t]) (typeIs_str _ _ _) PySem.F.slot_str_getitem.lookup (wpAny_getItem_str_slice (l := none) (u := none) (st := some (-1, uk)) ⟨_, Heap.get?_push_size _ rfl, rfl, rfl⟩ rfl (post_val_or_str ⟨?_, fun t' c => ?_⟩)) (by with_unfolding_all rfl)
  · show (Txt.sliceBy z none none (-1, uk)).length ≤ _
    rw [step_rev_len]
    exact few
  · show EP X pins σ Q (.str (Txt.sliceBy z none none (-1, uk)) t') _
    rw [rev_by]
    exact ⟨.str (revS z), H4, I5.tok _, ⟨_, rfl⟩, q⟩
end
end Re

/-! == and != of own objects by an own __eq__, either answer; the other may be anything. -/
namespace Ro
open PySem PySem.Spec PySem.W PyProof.Rows
section
variable {M : Model} {prog : Program} {w : World} {A : Around} {E : Value → Shared → Prop} {s : Shared} {K : Frag} {x C L f : Addr} {h₀ : Heap} {m : Str → Option Value} {ox : Obj} {od : Option Obj} {b tb : Value}
theorem entry_ne (X : K.In s.heap) (I : InstAt s.heap x ox C od) (hs : findIn K (.ref C) "__eq__" = some (some (.ref f))) (hf : isFn K (.ref f) = true) (hu : A.units < cLine) {Q : Fin → Shared → Prop}
    (hcall : wpAny (model prog w) A (call (.ref f) [.ref x, b]) (fun v s' => ∃ k, v = .bool k ∧ Q (.done (.ret (.bool (!k)))) s') E s) :
    wpAny (model prog w) A (Builtin.«object.__ne__» ⟨[.ref x, b], []⟩) Q E s := by
  unfold Builtin.«object.__ne__»
  repeat (first
    | with_reducible refine wpAny_cRoomFor hu ?_
    | (refine wpAny_bind (m := callSpecialIfBound? (.ref x) (Str.ofString "__eq__") [b])
        (ifBound_K X I hs hf (wpAny_mono hcall (fun r s' hr => by
          obtain ⟨b, rfl, hq⟩ := hr
          repeat (first | exact hq | exact wpAny_pure hq | exact wpAny_truthy_bool hq | (refine wpAny_bind (m := truthy (.bool _)) (wpAny_truthy_bool ?_)) | wp_step)) fun _ _ e => e)))
    | wp_step)
theorem ifBound_ne {args : List Value} {Q : Option Value → Shared → Prop} (X : K.In s.heap) (I : InstAt s.heap x ox C od) (hs : findIn K (.ref C) "__ne__" = some (some (.builtin "object.__ne__")))
    (h : wpAny M A (call (.builtin "object.__ne__") (.ref x :: args)) (fun v => Q (some v)) E s) : wpAny M A (callSpecialIfBound? (.ref x) "__ne__" args) Q E s := by
  simp only [callSpecialIfBound?, bindSpecialIfBound?]
  refine wpAny_holding (wpAny_bind (wpAny_bind (wpAny_bind (I.type.here ((looks_findIn X hs).here ?_)))))
  refine wpAny_bind (wpAny_askSetting (wpAny_ite ?_))
  have fin : wpAny M A (call (.builtin "object.__ne__") ([.ref x] ++ args) >>= fun v => pure (some v)) Q E s := wpAny_bind (wpAny_mono h (fun v s' h' => wpAny_pure h') fun _ _ h' => h')
  split
  · exact wpAny_bind (wpAny_of_eq (F.cmp_object.ne.bind _) (wpAny_pure (by exact fin)))
  · exact wpAny_tryCatch (wpAny_bind (wpAny_of_eq (F.cmp_object.ne.bind _) (wpAny_pure (by exact fin))))
theorem call_ne {Q : Value → Shared → Prop} (X : K.In s.heap) (I : InstAt s.heap x ox C od) (hm : mroIn K C (.type "object") = some true) (hs : findIn K (.ref C) "__eq__" = some (some (.ref f))) (hf : isFn K (.ref f) = true) (hu : A.units + 1 < cLine)
    (hcall : wpAny (model prog w) A.in1 (call (.ref f) [.ref x, b]) (fun v s' => ∃ k, v = .bool k ∧ Q (.bool (!k)) s') E s) :
    wpAny (model prog w) A (call (.builtin "object.__ne__") [.ref x, b]) Q E s :=
  wpAny_call (codeAny_call_builtin F.cmp_object.ne.plain F.cmpEntry_ne (check_slot F.cmpKind_ne F.cmpSplit_ne (I.type.andThen (looks_mroIn X hm)) (F.cmpArgs_ne _ _) (entry_ne (A := A.in1) X I hs hf hu (wpAny_mono hcall (fun v s' hv => hv) fun _ _ e => e))))
theorem ne_K {Q : Value → Shared → Prop} (hu : A.units + 1 < cLine) (X : K.In s.heap) (I : InstAt s.heap x ox C od) (hm : mroIn K C (.type "object") = some true) (hb : Looks (model prog w) s.heap (typeOf b) tb) (hn : notFirst K C tb = true)
    (hne : findIn K (.ref C) "__ne__" = some (some (.builtin "object.__ne__"))) (hs : findIn K (.ref C) "__eq__" = some (some (.ref f))) (hf : isFn K (.ref f) = true)
    (h : wpAny (model prog w) A.in1 (call (.ref f) [.ref x, b]) (fun v s' => ∃ k, v = .bool k ∧ Q (.bool (!k)) s') E s) : wpAny (model prog w) A (richCompare .NotEq (.ref x) b) Q E s := by
  have one : wpAny (model prog w) A (tryCompare (.ref x) "__ne__" b) (fun r s' => ∃ v, r = some v ∧ Q v s') E s := by
    unfold tryCompare
    refine wpAny_bind (ifBound_ne X I hne (call_ne X I hm hs hf hu (wpAny_mono h (fun v s' hv => ?_) fun _ _ e => e)))
    obtain ⟨k, rfl, q⟩ := hv
    exact ⟨k, rfl, wpAny_pure ⟨_, rfl, q⟩⟩
  unfold richCompare
  rw [cmpInfo_NotEq]
  simp only [oneThing_ref]
  refine wpAny_holding (wpAny_bind (wpAny_cRoomFor (Nat.lt_of_succ_lt hu) ?_))
  refine wpAny_bind (I.type.here (wpAny_bind (hb.here ?_)))
  split
  · rename_i q
    have e : subIn K tb (.ref C) = some false := by
      rcases Bool.or_eq_true_iff.mp hn with e | e
      · rw [beq_iff_eq.mp e] at q; simp at q
      · exact beq_iff_eq.mp e
    refine wpAny_bind ((looks_subIn X e).here ?_)
    simp only [Bool.false_eq_true, if_false]
    refine wpAny_bind (wpAny_mono one (fun r s' z => ?_) fun _ _ e => e)
    obtain ⟨v, rfl, hq⟩ := z
    exact wpAny_pure hq
  · refine wpAny_bind (wpAny_pure ?_)
    simp only [Bool.false_eq_true, if_false]
    refine wpAny_bind (wpAny_mono one (fun r s' z => ?_) fun _ _ e => e)
    obtain ⟨v, rfl, hq⟩ := z
    exact wpAny_pure hq
end
end Ro
namespace Ro
open PySem PySem.Spec PyProof.Rows L2 Rd
/-- what == and != ask of an own class with an own __eq__ at f -/
structure OwnE (K : PySem.W.Frag) (C f : Addr) : Prop where
  eq : PySem.W.findIn K (.ref C) "__eq__" = some (some (.ref f))
  fn : PySem.W.isFn K (.ref f) = true
  ne : PySem.W.findIn K (.ref C) "__ne__" = some (some (.builtin "object.__ne__"))
  hm : PySem.W.mroIn K C (.type "object") = some true
section
variable {X : Cx} {n : Nat} {CX : CXT} {C f : Addr} {fd : FuncData} {ps : List Str} {sp : Sp} {E : XK}
/-- own == of two instances of C -/
def rOE (C : Addr) (sp : Sp) (E : XK) (g : Bool → Bool) : R2 := fun x y H Q => ∃ a b dx dy fs gs, x = .ref a ∧ y = .ref b ∧ H a = some (.ins C dx fs) ∧ H b = some (.ins C dy gs) ∧ sp [x, y] H (fun v H' => ∃ k, v = .bl k ∧ Q (.bl (g k)) H') E
theorem run_eq {A : Around} (F : FnOk X.prog X.w X.K X.mg X.base CX n f fd ps sp) (hb : Binds X.K fd ps []) (hx : Passes CX X E) (hr : Room n A) (hfr : A.frames = X.A.frames)
    {pins : List (Addr × Obj)} {s : Shared} {σ : L2.St} {H : Hp} {x y : V} {v u : Value} {R : VK} (I : Inv X pins σ H s) (rx : RelV x v) (ry : RelV y u) (hsp : sp [x, y] H R E) :
    wpAny (model X.prog X.w) A (call (.ref f) [v, u]) (EP X pins σ R) X.xe s := by
  have e0 : Env0 X.prog X.w X.K X.mg X.base A X.stack s H := by
    have e := I.env0
    exact ⟨by rw [hfr]; exact e.frames, e.mod, e.bs, e.bsz, e.funs, e.frf, e.hok, e.bare⟩
  have hl := F.len _ _ _ _ hsp
  have r2 : Vals [x, y] [v, u] := .cons rx (.cons ry .nil)
  refine wpAny_call (codeAny_mono (F.run A X.stack s H ⟨[v, u], []⟩ [v, u] [x, y] _ E hr e0 (by
    have := hb s [v, u] I.kIn (by simpa using hl)
    simpa using this) r2 hsp) fun r s' hq => ?_)
  cases r with
  | error e => exact hx pins σ H s e s' I hq
  | ok fl =>
    cases fl with
    | ret w => exact I.after hq
    | next => exact False.elim hq
    | brk => exact False.elim hq
    | cont => exact False.elim hq
theorem op_oe (O : OwnE X.K C f) (F : FnOk X.prog X.w X.K X.mg X.base CX n f fd ps sp) (hb : Binds X.K fd ps []) (hx : Passes CX X E) (hr : Room n X.A) : OpR X (compareOp .Eq) (rOE C sp E id) := by
  intro pins s σ H x y v u Q I rx ry hq
  obtain ⟨a, b, dx, dy, fs, gs, rfl, rfl, ha, hb', hsp⟩ := hq
  cases rx
  cases ry
  obtain ⟨mA, J, _⟩ := ins_get I.hok ha
  obtain ⟨mB, J', _⟩ := ins_get I.hok hb'
  obtain ⟨od, J, _⟩ := J.look
  obtain ⟨od', J', _⟩ := J'.look
  obtain ⟨m, hF⟩ := I.fr
  refine PySem.W.cmp_K (op := .Eq) (tb := .ref C) hr.units0 hF I.ok.mod.kin J J'.type (by simp [PySem.W.notFirst]) O.eq O.fn ?_
  refine wpAny_mono (run_eq F hb hx hr rfl I (x := .ref a) (y := .ref b) rfl rfl hsp) (fun r s' z => ?_) fun _ _ e => e
  obtain ⟨z, H', I', rz, k, ez, q⟩ := z
  subst ez
  cases rz
  exact ⟨.bl k, H', I', rfl, q⟩
theorem op_one (O : OwnE X.K C f) (F : FnOk X.prog X.w X.K X.mg X.base CX n f fd ps sp) (hb : Binds X.K fd ps []) (hx : Passes CX X E) (hr : Room (n + 1) X.A) : OpR X (compareOp .NotEq) (rOE C sp E not) := by
  intro pins s σ H x y v u Q I rx ry hq
  obtain ⟨a, b, dx, dy, fs, gs, rfl, rfl, ha, hb', hsp⟩ := hq
  cases rx
  cases ry
  obtain ⟨mA, J, _⟩ := ins_get I.hok ha
  obtain ⟨mB, J', _⟩ := ins_get I.hok hb'
  obtain ⟨od, J, _⟩ := J.look
  obtain ⟨od', J', _⟩ := J'.look
  refine ne_K (tb := .ref C) hr.in1.units0 I.kIn J O.hm J'.type (by simp [PySem.W.notFirst]) O.ne O.eq O.fn ?_
  refine wpAny_mono (run_eq F hb hx hr.in1 rfl I (x := .ref a) (y := .ref b) rfl rfl hsp) (fun r s' z => ?_) fun _ _ e => e
  obtain ⟨z, H', I', rz, k, ez, q⟩ := z
  subst ez
  cases rz
  exact ⟨k, rfl, .bl (!k), H', I', rfl, q⟩
/-- one of two ways to compare -/
theorem op_or {g : Value → Value → Sem Value} {r r' : R2} (a : OpR X g r) (b : OpR X g r') : OpR X g (fun x y H Q => r x y H Q ∨ r' x y H Q) := fun pins s σ H x y v u Q I rx ry h => h.elim (a pins s σ H x y v u Q I rx ry) (b pins s σ H x y v u Q I rx ry)
theorem oe {C a b dx dy : Addr} {fs gs : List (Str × V)} {H : Hp} {g : Bool → Bool} {Q : VK} (ha : H a = some (.ins C dx fs)) (hb : H b = some (.ins C dy gs)) (h : sp [.ref a, .ref b] H (fun v H' => ∃ k, v = .bl k ∧ Q (.bl (g k)) H') E) : rOE C sp E g (.ref a) (.ref b) H Q :=
  ⟨a, b, dx, dy, fs, gs, rfl, rfl, ha, hb, h⟩
end
end Ro

/-! == of an own object and something else, either side. -/
namespace Rp
open PySem PySem.Spec PySem.W PyProof.Rows
open AutoSeq1 (wpAny_loadPart')
section
variable {prog : Program} {w : World} {A : Around} {E : Value → Shared → Prop} {s : Shared} {K : Frag} {x C dx f : Addr} {Q : Option Value → Shared → Prop}
theorem int_body {i : Int} {t : Tok} {R : Fin → Shared → Prop} (hx : s.heap.get? x = some (instObj C dx)) (h : R (.done (.ret .notImplemented)) s) : wpAny (model prog w) A (Builtin.«int.__eq__» ⟨[.int i t, .ref x], []⟩) R E s := by
  obtain ⟨hp, g, d, tk, os⟩ := s
  wp_walk using wpAny_loadPart' hx
  exact h
theorem bool_body {i : Bool} {R : Fin → Shared → Prop} (hx : s.heap.get? x = some (instObj C dx)) (h : R (.done (.ret .notImplemented)) s) : wpAny (model prog w) A (Builtin.«int.__eq__» ⟨[.bool i, .ref x], []⟩) R E s := by
  obtain ⟨hp, g, d, tk, os⟩ := s
  wp_walk using wpAny_loadPart' hx
  exact h
theorem str_body {i : Str} {t : Tok} {R : Fin → Shared → Prop} (hx : s.heap.get? x = some (instObj C dx)) (h : R (.done (.ret .notImplemented)) s) : wpAny (model prog w) A (Builtin.«str.__eq__» ⟨[.str i t, .ref x], []⟩) R E s := by
  obtain ⟨hp, g, d, tk, os⟩ := s
  wp_walk using wpAny_loadPart' hx
  exact h
theorem none_body {R : Fin → Shared → Prop} (h : R (.done (.ret .notImplemented)) s) : wpAny (model prog w) A (Builtin.«NoneType.__eq__» ⟨[.none, .ref x], []⟩) R E s := by
  obtain ⟨hp, g, d, tk, os⟩ := s
  wp_walk
  exact h
theorem list_body {l : Addr} {R : Fin → Shared → Prop} (X : K.In s.heap) (hm : mroIn K C (.type "list") = some false) (hx : s.heap.get? x = some (instObj C dx)) (h : R (.done (.ret .notImplemented)) s) : wpAny (model prog w) A (Builtin.«list.__eq__» ⟨[.ref l, .ref x], []⟩) R E s := by
  obtain ⟨hp, g, d, tk, os⟩ := s
  wp_walk using wpAny_loadPart' hx
  refine (looks_mroIn X hm).here ?_
  wp_walk
  exact h
/-- the built-in on the left declines -/
theorem declines {v : Value} {T id : String} {B : Builtin} (slot : Slot T (cmpInfo .Eq).2.1 id) (hT : s.TypeIs v T) (entry : entryFor table id = some B) (args : argsOk id ⟨[v, .ref x], []⟩) (hb : ∀ R : Fin → Shared → Prop, R (.done (.ret .notImplemented)) s → ∀ E, wpAny (model prog w) A.in1 (B ⟨[v, .ref x], []⟩) R E s) (hq : Q none s) :
    wpAny (model prog w) A (tryCompare v "__eq__" (.ref x)) Q E s :=
  wpAny_tryCompare_declines hT slot (GQ.call_here slot hT entry args (hb _ ⟨rfl, hq⟩ _))
theorem rc {v : Value} {T : String} {od : Option Obj} {R : Value → Shared → Prop} (hu : A.units < cLine) (X : K.In s.heap) (I : InstAt s.heap x (instObj C dx) C od) (hT : s.TypeIs v T) (hot : oneThing? .Eq v (.ref x) = none) (hm : mroIn K C (.type T) = some false) (hs : findIn K (.ref C) "__eq__" = some (some (.ref f))) (hf : isFn K (.ref f) = true)
    (hd : ∀ Q : Option Value → Shared → Prop, Q none s → wpAny (model prog w) A (tryCompare v "__eq__" (.ref x)) Q E s)
    (h : wpAny (model prog w) A (call (.ref f) [.ref x, v]) (PySem.W.CmpBack R) E s) : wpAny (model prog w) A (richCompare .Eq v (.ref x)) R E s := by
  have one : wpAny (model prog w) A (tryCompare (.ref x) "__eq__" v) (fun r s' => ∃ z, r = some z ∧ R z s') E s := by
    unfold tryCompare
    refine wpAny_bind (ifBound_K X I hs hf (wpAny_mono h (fun z s' hz => ?_) fun _ _ e => e))
    cases z <;> first | exact hz.elim | exact wpAny_pure ⟨_, rfl, hz⟩
  simp only [richCompare, cmpInfo_Eq, hot]
  refine wpAny_holding (wpAny_bind (wpAny_cRoomFor hu ?_))
  refine wpAny_bind (wpAny_typeOf hT (wpAny_bind (I.type.here ?_)))
  split
  · refine wpAny_bind ((looks_mroIn X hm).here ?_)
    simp only [Bool.false_eq_true, if_false, Bool.not_false, if_true]
    refine wpAny_bind (hd _ ?_)
    refine wpAny_bind (wpAny_mono one (fun r s' z => ?_) fun _ _ e => e)
    obtain ⟨v, rfl, hq⟩ := z
    exact wpAny_pure hq
  · rename_i q
    exact absurd (by simp) q
end
end Rp
namespace Rp
open PySem PySem.Spec PyProof.Rows L2 Rd
/-- an own class is none of these built-in ones -/
structure Fgn (K : PySem.W.Frag) (C : Addr) : Prop where
  non : PySem.W.mroIn K C (.type "NoneType") = some false
  int : PySem.W.mroIn K C (.type "int") = some false
  bl : PySem.W.mroIn K C (.type "bool") = some false
  str : PySem.W.mroIn K C (.type "str") = some false
  lst : PySem.W.mroIn K C (.type "list") = some false
/-- None, a number, a flag, a text, a list -/
def Bi (K : PySem.W.Frag) (H : Hp) (x : V) : Prop := x = .non ∨ (∃ i, x = .int i) ∨ (∃ z, x = .bl z) ∨ (∃ z, x = .str z) ∨ ∃ a xs, x = .ref a ∧ SqL K H a xs
section
variable {X : Cx} {n : Nat} {CX : CXT} {C f : Addr} {fd : FuncData} {ps : List Str} {sp : Sp} {E : XK}
/-- such a thing on the left, an instance of C on the right -/
def rXO (K : PySem.W.Frag) (C : Addr) (sp : Sp) (E : XK) : R2 := fun x y H Q => ∃ b dy gs, y = .ref b ∧ H b = some (.ins C dy gs) ∧ Bi K H x ∧ sp [y, x] H (fun v H' => ∃ k, v = .bl k ∧ Q (.bl k) H') E
theorem op_xo (O : Ro.OwnE X.K C f) (G : Fgn X.K C) (F : FnOk X.prog X.w X.K X.mg X.base CX n f fd ps sp) (hb : Binds X.K fd ps []) (hx : Passes CX X E) (hr : Room n X.A) : OpR X (compareOp .Eq) (rXO X.K C sp E) := by
  intro pins s σ H x y v u Q I rx ry hq
  obtain ⟨b, dy, gs, rfl, hb', bi, hsp⟩ := hq
  cases ry
  have hob := (show ObjOk X.prog X.w H s.heap b (.ins C dy gs) from I.hok b _ hb').2.2.2.1
  obtain ⟨mB, J, _⟩ := ins_get I.hok hb'
  obtain ⟨od, J, _⟩ := J.look
  have fin : ∀ {v : Value}, RelV x v → wpAny (model X.prog X.w) X.A (call (.ref f) [.ref b, v]) (PySem.W.CmpBack (EP X pins σ Q)) X.xe s := fun rv =>
    wpAny_mono (Ro.run_eq F hb hx hr rfl I (x := .ref b) rfl rv hsp) (fun r s' z => by
      obtain ⟨z, H', I', rz, k, ez, q⟩ := z
      subst ez
      cases rz
      exact ⟨.bl k, H', I', rfl, q⟩) fun _ _ e => e
  rcases bi with rfl | ⟨i, rfl⟩ | ⟨i, rfl⟩ | ⟨i, rfl⟩ | ⟨a, xs, rfl, ha⟩
  · cases rx
    exact rc hr.units0 I.kIn J (T := "NoneType") rfl rfl G.non O.eq O.fn (fun Q q => declines PySem.F.slot_NoneType_eq rfl PySem.F.entry_NoneType_eq (PySem.F.args_NoneType_eq_2 _ _) (fun R h E => none_body h) q) (fin rfl)
  · obtain ⟨t, rfl⟩ := id rx
    exact rc hr.units0 I.kIn J (T := "int") rfl rfl G.int O.eq O.fn (fun Q q => declines PySem.F.slot_int_eq rfl PySem.F.entry_int_eq (PySem.F.args_int_eq_2 _ _) (fun R h E => int_body hob h) q) (fin rx)
  · cases rx
    exact rc hr.units0 I.kIn J (T := "bool") rfl rfl G.bl O.eq O.fn (fun Q q => declines PySem.F.slot_bool_eq rfl PySem.F.entry_int_eq (PySem.F.args_int_eq_2 _ _) (fun R h E => bool_body hob h) q) (fin rfl)
  · obtain ⟨t, rfl⟩ := id rx
    exact rc hr.units0 I.kIn J (T := "str") rfl rfl G.str O.eq O.fn (fun Q q => declines PySem.F.slot_str_eq rfl PySem.F.entry_str_eq (PySem.F.args_str_eq_2 _ _) (fun R h E => str_body hob h) q) (fin rx)
  · cases rx
    obtain ⟨its, rv, hl, hz⟩ := I.list ha
    have hT : s.TypeIs (.ref a) "list" := let ⟨o, _, e, c, _⟩ := hl; ⟨o, e, c⟩
    exact rc hr.units0 I.kIn J (T := "list") hT rfl G.lst O.eq O.fn (fun Q q => declines PySem.F.slot_list_eq hT PySem.F.entry_list_eq (PySem.F.args_list_eq_2 _ _) (fun R h E => list_body I.kIn G.lst hob h) q) (fin rfl)
/-- an instance of C on the left, something of the type t on the right -/
def rOX (K : PySem.W.Frag) (C : Addr) (sp : Sp) (E : XK) : R2 := fun x y H Q => ∃ a dx fs t, x = .ref a ∧ H a = some (.ins C dx fs) ∧ TyX K H y t ∧ PySem.W.notFirst K C t = true ∧ sp [x, y] H (fun v H' => ∃ k, v = .bl k ∧ Q (.bl k) H') E
theorem op_oxE (oe : PySem.W.findIn X.K (.ref C) "__eq__" = some (some (.ref f))) (of : PySem.W.isFn X.K (.ref f) = true) (F : FnOk X.prog X.w X.K X.mg X.base CX n f fd ps sp) (hb : Binds X.K fd ps []) (hx : Passes CX X E) (hr : Room n X.A) : OpR X (compareOp .Eq) (rOX X.K C sp E) := by
  intro pins s σ H x y v u Q I rx ry hq
  obtain ⟨a, dx, fs, t, rfl, ha, ty, nf, hsp⟩ := hq
  cases rx
  obtain ⟨mA, J, _⟩ := ins_get I.hok ha
  obtain ⟨od, J, _⟩ := J.look
  obtain ⟨m, hF⟩ := I.fr
  obtain ⟨P, kx, hP, _⟩ := kit_of I ry ty
  refine PySem.W.cmp_K (op := .Eq) (tb := t) hr.units0 hF I.ok.mod.kin J (kx.ty _ _ I.kIn hP) nf oe of ?_
  refine wpAny_mono (Ro.run_eq F hb hx hr rfl I (x := .ref a) rfl ry hsp) (fun r s' z => ?_) fun _ _ e => e
  obtain ⟨z, H', I', rz, k, ez, q⟩ := z
  subst ez
  cases rz
  exact ⟨.bl k, H', I', rfl, q⟩
theorem op_ox (O : Ro.OwnE X.K C f) (F : FnOk X.prog X.w X.K X.mg X.base CX n f fd ps sp) (hb : Binds X.K fd ps []) (hx : Passes CX X E) (hr : Room n X.A) : OpR X (compareOp .Eq) (rOX X.K C sp E) := op_oxE O.eq O.fn F hb hx hr
/-- isinstance of a built-in kind and an own class -/
theorem kitB_own {K : PySem.W.Frag} {T : String} (i : PySem.W.isClsIn K C = true) (t : PySem.W.typeIn K (.ref C) = some (.type "type")) (h : ((fastBuiltinMro T).map fun l => l.contains (Value.ref C)) = some false) : PySem.W.kitOne K (.type T) (.ref C) = some false := by
  show (if (Value.type T == Value.ref C) = true then some true else if ((PySem.W.clsIn K C).isSome && PySem.W.typeIn K (.ref C) == some (.type "type")) = true then PySem.W.subIn K (.type T) (.ref C) else none) = some false
  rw [if_neg (by simp), if_pos (by rw [t, show (PySem.W.clsIn K C).isSome = true from i]; simp)]
  exact h
theorem kitO_own {K : PySem.W.Frag} {D : Addr} {r : Bool} (i : PySem.W.isClsIn K C = true) (t : PySem.W.typeIn K (.ref C) = some (.type "type")) (h : PySem.W.subIn K (.ref D) (.ref C) = some r) (ne : (Value.ref D == Value.ref C) = false) : PySem.W.kitOne K (.ref D) (.ref C) = some r := by
  show (if (Value.ref D == Value.ref C) = true then some true else if ((PySem.W.clsIn K C).isSome && PySem.W.typeIn K (.ref C) == some (.type "type")) = true then PySem.W.subIn K (.ref D) (.ref C) else none) = some r
  rw [if_neg (by rw [ne]; simp), if_pos (by rw [t, show (PySem.W.clsIn K C).isSome = true from i]; simp)]
  exact h
theorem notFirst_own {K : PySem.W.Frag} {D : Addr} (h : PySem.W.subIn K (.ref D) (.ref C) = some false) : PySem.W.notFirst K C (.ref D) = true := by
  unfold PySem.W.notFirst
  rw [h]
  simp
end
theorem bi_notFirst {K : PySem.W.Frag} {C : Addr} {T : String} (h : ((fastBuiltinMro T).map fun l => l.contains (Value.ref C)) = some false) : PySem.W.notFirst K C (.type T) = true := by
  unfold PySem.W.notFirst
  rw [show PySem.W.subIn K (.type T) (.ref C) = some false from h]
  simp
end Rp

/-! {(a, b): v, ..}: a dict written out whose keys are tuples. -/
namespace Ry
open PySem PySem.Spec PyProof.Rows L2 Rd
section
variable {X : Cx} {pins : List (Addr × Obj)} {σ : L2.St} {H : Hp} {s : Shared} {a : Addr} {A : Around} {E : Value → Shared → Prop}
/-- d[y] = v by the dict's own store, y a tuple -/
theorem dset {kvs : List (List Key × V)} {k : List Key} {b : Addr} {v : V} {r : Value} {Q : Unit → Shared → Prop} (hu : A.units + 1 < cLine) (I : Inv X pins σ H s) (e : H a = some (.dT kvs)) (eb : H b = some (.tup (k.map kV))) (l : kvs.length < sizeLine) (rv : L2.RelV v r)
    (h : ∀ s', Inv X pins σ (upd H a (.dT (putK kvs k v))) s' → Q () s') : wpAny (model X.prog X.w) A (dictSet a (.ref b) r) Q E s := by
  obtain ⟨z, hd, xs, rel, dd⟩ := dt_of I.hok e
  have hz : xs.length ≤ sizeLine := by rw [← Paired.length rel]; exact z
  have hl : (putK kvs k v).length ≤ sizeLine := by have := length_putK kvs k v; omega
  refine wpAny_dictSet_heap (hsz := hz) (show A.units < cLine by omega) (key_of I.hok eb) dd fun h' dd' hs => h _ ?_
  obtain ⟨q, es, ep, hq, h2, h3, h4, _, h5⟩ := dd'
  refine d_write I (by rw [e]; exact True.intro) hs ⟨q, hq⟩ ⟨hl, hd, _, (rel.put k eb rv).keeps fun c ys ec => ?_, q, es, ep, hq, h2, h3, h4, h5⟩
  rw [upd_ne (ne_of ec e (fun z => nomatch z))]
  exact ec
/-- what a display puts down, pair by pair -/
def putAll (kvs more : List (List Key × V)) : List (List Key × V) := more.foldl (fun acc kv => putK acc kv.1 kv.2) kvs
theorem putAll_len : ∀ (more kvs : List (List Key × V)), (putAll kvs more).length ≤ kvs.length + more.length
  | [], kvs => by show kvs.length ≤ kvs.length + 0; omega
  | p :: r, kvs => by
    have h1 := putAll_len r (putK kvs p.1 p.2)
    have h2 := length_putK kvs p.1 p.2
    show (putAll (putK kvs p.1 p.2) r).length ≤ _
    rw [List.length_cons]; omega
/-- the pairs (a tuple's address, a value) with the tuples' keys -/
def KeyAt (H : Hp) (p : V × V) (kv : List Key × V) : Prop := ∃ b, p.1 = .ref b ∧ H b = some (.tup (kv.1.map kV)) ∧ p.2 = kv.2
theorem dsets {a : Addr} : ∀ (more : List (List Key × V)) {ps : List (V × V)} {vs : List (Value × Value)} {kvs : List (List Key × V)} {H : Hp} {s : Shared} {Q : PUnit → Shared → Prop}, A.units + 1 < cLine → Inv X pins σ H s → H a = some (.dT kvs) → VV ps vs → Paired (KeyAt H) ps more →
    kvs.length + more.length ≤ 1000 → (∀ s', Inv X pins σ (upd H a (.dT (putAll kvs more))) s' → Q PUnit.unit s') →
    wpAny (model X.prog X.w) A (forIn vs PUnit.unit fun (x : Value × Value) (_ : PUnit) => (do dictSet a x.1 x.2; pure (ForInStep.yield PUnit.unit) : Sem (ForInStep PUnit))) Q E s
  | [], ps, vs, kvs, H, s, Q, hu, I, e, r, p, hl, h => by
    cases p
    cases r
    rw [List.forIn_nil]
    refine wpAny_pure (h s ?_)
    have : upd H a (.dT (putAll kvs [])) = H := by
      funext b
      by_cases c : b = a
      · rw [c, upd_same, e]; rfl
      · rw [upd_ne c]
    rw [this]
    exact I
  | kv :: more, ps, vs, kvs, H, s, Q, hu, I, e, r, p, hl, h => by
    cases p with
    | @cons q _ ps' _ k p' =>
      cases r with
      | @cons _ u _ us ru r' =>
        obtain ⟨b, e1, e2, e3⟩ := k
        obtain ⟨ku, vu⟩ := u
        have ra : L2.RelV (.ref b) ku := by rw [← e1]; exact ru.1
        cases (show ku = Value.ref b from ra)
        have rv : L2.RelV kv.2 vu := by rw [← e3]; exact ru.2
        rw [List.length_cons] at hl
        rw [List.forIn_cons]
        refine wpAny_bind (wpAny_bind (dset hu I e e2 (by rw [sizeLine_eq]; omega) rv fun s1 I1 => wpAny_pure ?_))
        have keep : ∀ {ps : List (V × V)} {more : List (List Key × V)}, Paired (KeyAt H) ps more → Paired (KeyAt (upd H a (.dT (putK kvs kv.1 kv.2)))) ps more := fun x => by
          induction x with
          | nil => exact .nil
          | cons z _ ih =>
            obtain ⟨b, e1, e2, e3⟩ := z
            exact .cons ⟨b, e1, by rw [upd_ne (ne_of e2 e (fun z => nomatch z))]; exact e2, e3⟩ ih
        refine dsets more hu I1 upd_same r' (keep p') (by have := length_putK kvs kv.1 kv.2; omega) fun s2 I2 => h s2 ?_
        rw [upd_upd] at I2
        exact I2
end
/-- {k: v, ..}, the keys tuples of ints and texts; the new dict stands empty while the pairs are made -/
def tDispT (trs : List (TE × TE)) : TE := fun σ H Q => ∀ p, H p = none → tPairs trs σ (upd H p (.dT [])) fun ps H2 => H2 p = some (.dT []) ∧ ∃ kvs : List (List Key × V), Paired (KeyAt H2) ps kvs ∧ kvs.length ≤ 15 ∧ Q (.ref p) (upd H2 p (.dT (putAll [] kvs)))
theorem pe_dispT {X : Cx} {pos : Pos} {keys : List (Option Expr)} {values : List Expr} {trs : List (TE × TE)} (hu : X.A.units + 1 < cLine) (h : PPs X pos keys values trs) (hall : keys.all (·.isSome) = true) (hl : keys.length = values.length) (h0 : keys ≠ [])
    (h15 : keys.length ≤ 15) : PE X (.Dict keys values pos) (tDispT trs) := by
  refine ⟨fun pins s σ H Q I q => ?_⟩
  have hn := I.hok.fresh (Nat.le_refl s.heap.objs.size)
  have I1 := I.laid (a := s.heap.objs.size) (o := .dT []) (h' := s.heap.push { cls := .type "dict", data := .dict #[] }) (t' := s.toks) (fun _ _ q => Heap.get?_push_of_some _ q) (Nat.le_refl _) (dt_empty s.heap I.big)
  have hp := pairTrees_length keys values X.env pos hall hl
  have hne : pairTrees keys values X.env pos ≠ [] := fun c => by
    rw [c] at hp
    exact h0 (List.length_eq_zero_iff.mp hp.symm)
  rw [arm_eval_Dict, zip_pairTrees keys values X.env pos hall hl, dictDisplay_pairs _ hne (by omega)]
  refine wpAny_bind (wpAny_standAt (wpAny_bind ?_))
  unfold subDict
  refine wpAny_bind (wpAny_alloc ?_)
  refine wpAny_bind (wpAny_holding ?_)
  rw [if_pos (by omega)]
  refine wpAny_bind (thn (h.run pins _ σ _ _ I1 (q _ hn)) fun ws s2 ⟨ps, H2, I2, rel, e, kvs, pr, lk, q2⟩ => ?_)
  refine wpAny_holding (wpAny_bind (dsets kvs hu I2 e rel pr (by rw [List.length_nil]; omega) fun s3 I3 => wpAny_pure (wpAny_pure (wpAny_pure ⟨.ref s.heap.objs.size, _, I3, rfl, q2⟩))))
theorem dispT {trs : List (TE × TE)} {σ : L2.St} {H : Hp} {Q : VK} (h : ∀ (p : Addr) (G : Hp), H p = none → G p = some (.dT []) → Same H G → tPairs trs σ G fun ps H2 => H2 p = some (.dT []) ∧ ∃ kvs : List (List Key × V), Paired (KeyAt H2) ps kvs ∧ kvs.length ≤ 15 ∧
    ∀ G2 : Hp, G2 p = some (.dT (putAll [] kvs)) → (∀ b, b ≠ p → G2 b = H2 b) → Q (.ref p) G2) : tDispT trs σ H Q := fun p hp => by
  have key := h p _ hp upd_same (same_upd hp)
  have mono : ∀ {trs : List (TE × TE)} {σ : L2.St} {H : Hp} {A B : List (V × V) → Hp → Prop}, A = B → tPairs trs σ H A → tPairs trs σ H B := fun e h => e ▸ h
  refine mono ?_ key
  funext ps H2
  refine propext ⟨fun ⟨a, kvs, b, c, d⟩ => ⟨a, kvs, b, c, d _ upd_same fun b hb => upd_ne hb⟩, fun ⟨a, kvs, b, c, d⟩ => ⟨a, kvs, b, c, fun G2 g off => ?_⟩⟩
  have e : G2 = upd H2 p (.dT (putAll [] kvs)) := by
    funext x
    by_cases q : x = p
    · rw [q, g, upd_same]
    · rw [off x q, upd_ne q]
  rw [e]
  exact d
/-- what a comprehension within a comprehension walks -/
theorem pi_listK {X : Cx} {K : PySem.W.Frag} {tg l : Expr} {tl : TE} (e : X.K = K) (hl : PE X l tl) : PI X tg l (iList K tl) := e ▸ pi_list hl
theorem pi_tupK {X : Cx} {K : PySem.W.Frag} {tg l : Expr} {tl : TE} (e : X.K = K) (hl : PE X l tl) : PI X tg l (iTup K tl) := e ▸ pi_tup hl
/-- a join within a comprehension -/
def joinR (K : PySem.W.Frag) : V → List V → Hp → VK → Prop := fun x xs H Q => ∃ a p, ∃ ys : List Str, x = .str a ∧ xs = [.ref p] ∧ (SqL K H p (ys.map V.str) ∨ SqT K H p (ys.map V.str)) ∧
      (ys.map (·.length)).sum + ys.length * a.length ≤ 16777216 ∧ Q (.str (Txt.join a ys)) H
theorem pe_joinK {X : Cx} {o e : Expr} {to te : TE} {apos pos : Pos} (ho : PE X o to) (he : PE X e te) (hs : starEach [e] X.env = [(false, eval e X.env)] := by rfl) (hbase : attributeBase o "join" X.env (eval o X.env) = eval o X.env := by rfl) (hline : (apos.endLine == pos.line) = true := by rfl) :
    PE X (.Call (.Attribute o "join" apos) [e] [] pos) (tM1 (joinR X.K) to te) := pe_join ho he hs hbase hline
theorem joinS {K : PySem.W.Frag} {H : Hp} {a : Str} {p : Addr} {ys : List Str} {Q : VK} (hp : SqL K H p (ys.map V.str) ∨ SqT K H p (ys.map V.str)) (hz : (ys.map (·.length)).sum + ys.length * a.length ≤ 16777216) (h : Q (.str (Txt.join a ys)) H) : joinR K (.str a) [.ref p] H Q := ⟨a, p, ys, rfl, rfl, hp, hz, h⟩
/-- dict(xs) of a list of pairs -/
def rDictP (K : PySem.W.Frag) : List V → Hp → VK → Prop := fun xs H Q => ∃ (a : Addr) (ps : List Addr) (kvs : List (Key × V)), xs = [.ref a] ∧ SqL K H a (ps.map V.ref) ∧ Paired (fun p kv => SqT K H p [kV kv.1, kv.2]) ps kvs ∧ ∀ p, H p = none → Q (.ref p) (upd H p (.dK (mergeK [] kvs)))
theorem c_dictP {X : Cx} (h : X.calm = true) : CallR X (.type "dict") (rDictP X.K) := call_dictP h
theorem dictP {K : PySem.W.Frag} {H : Hp} {a : Addr} {ps : List Addr} {kvs : List (Key × V)} {Q : VK} (h : SqL K H a (ps.map V.ref)) (hp : Paired (fun p kv => SqT K H p [kV kv.1, kv.2]) ps kvs) (q : ∀ (p : Addr) (G : Hp), H p = none → G p = some (.dK (mergeK [] kvs)) → Same H G → Q (.ref p) G) : rDictP K [.ref a] H Q :=
  ⟨a, ps, kvs, rfl, h, hp, fun p hp => q p _ hp upd_same (same_upd hp)⟩
end Ry

/-! bits of small numbers -/
namespace Rb
open PySem PySem.Spec
theorem andN (a b : Nat) : Builtin.bitAnd (a : Int) (b : Int) = ((a &&& b : Nat) : Int) := PySem.W.os_band a b
theorem orN (a b : Nat) : Builtin.bitOr (a : Int) (b : Int) = ((a ||| b : Nat) : Int) := by
  have n1 : ∀ x : Nat, Builtin.bitNot (x : Int) < 0 := fun x => by unfold Builtin.bitNot; omega
  have n2 : ∀ x : Int, Builtin.bitNot (Builtin.bitNot x) = x := fun x => by unfold Builtin.bitNot; omega
  unfold Builtin.bitOr Builtin.bitAnd
  have h1 := n1 a
  have h2 := n1 b
  rw [decide_eq_false (by omega), decide_eq_false (by omega)]
  simp only [n2, Int.toNat_natCast]
theorem bitN (a k : Nat) : Builtin.bitAnd ((a : Int) / 2 ^ ((k : Nat) : Int).toNat) 1 = ((a / 2 ^ k % 2 : Nat) : Int) := by
  rw [Int.toNat_natCast, show (a : Int) / 2 ^ k = ((a / 2 ^ k : Nat) : Int) by push_cast; rfl, show (1 : Int) = ((1 : Nat) : Int) from rfl, andN, Nat.and_one_is_mod]
theorem shl1 (k : Nat) : (1 : Int) * 2 ^ ((k : Nat) : Int).toNat = ((2 ^ k : Nat) : Int) := by
  rw [Int.toNat_natCast, Int.one_mul]
  push_cast
  rfl
end Rb

/-! Defs of which it is known that no repr is under way; repr of data. -/
namespace Rg
open PySem PySem.Spec PyProof.Rows L2
/-- the promise of a def, for the frames that stand in no repr -/
structure FnG (P : Program) (w : World) (K : PySem.W.Frag) (mg : Str → Option Value) (base : Heap) (CX : CXT) (k : Nat) (f : Addr) (fd : FuncData) (ps : List Str) (sp : Sp) : Prop where
  len : ∀ vs H Q E, sp vs H Q E → vs.length = ps.length
  run : ∀ (A : Around) (st : List Env) (s : Shared) (H : Hp) (ag : Args) (us : List Value) (vs : List V) (Q : VK) (E : XK), A.guards = some [] → Room k A → Env0 P w K mg base A st s H → BindsTo s fd ag (ps.zip us) → Vals vs us → sp vs H Q E →
    codeAny (model P w) A (.call (.ref f) ag) (CR CX st P w H s Q E) s
section
variable {P : Program} {w : World} {K : PySem.W.Frag} {mg : Str → Option Value} {base : Heap} {CX : CXT}
theorem FnG.mono {j k : Nat} {f : Addr} {fd : FuncData} {ps : List Str} {sp : Sp} (F : FnG P w K mg base CX j f fd ps sp) (h : j ≤ k) : FnG P w K mg base CX k f fd ps sp := ⟨F.len, fun A st s H ag us vs Q E g hr => F.run A st s H ag us vs Q E g (hr.mono h)⟩
theorem fnG_of {k : Nat} {f : Addr} {nm qual : Str} {pa : Arguments} {body : List Stmt} {sc : Scope} {dV kV doc pm cdv ct oc : Value} {an od : Option Addr} {osl : Array (Option Value)} {N ps : List Str} {sp : Sp}
    (lk : K.lookup f = some ⟨oc, od, .func (PySem.W.fnOf nm qual pa body sc dV kV doc pm an cdv ct), osl⟩) (hcd : PySem.W.codeIn K cdv qual = true) (S : FnScope N ps sc) (len : ∀ vs H Q E, sp vs H Q E → vs.length = ps.length)
    (hb : ∀ (A : Around) (st : List Env) (s : Shared) (H : Hp) (vs : List V) (Q : VK) (E : XK), A.guards = some [] → Room k (A.deeper (envOfC qual sc s.heap.objs.size f cdv)) → sp vs H Q E → ∃ t, PSs (cxOf CX P w K mg base N qual sc f cdv A st s H E) body t ∧ t { nx := fun _ H' => Q .non H', rt := Q } (start N vs) H) :
    FnG P w K mg base CX (k + 1) f (PySem.W.fnOf nm qual pa body sc dV kV doc pm an cdv ct) ps sp := by
  refine ⟨len, fun A st s H ag us vs Q E g hr e0 hbd r hsp => ?_⟩
  have KX : K.In s.heap := e0.mod.kin.keeps fun x o e => (e0.bs x o e).1
  have kinds : ∀ y ∈ ps.zip us, sc.names.lookup y.1 = some .local ∨ (sc.names.lookup y.1 = some .cell ∧ ((cellsFrom (s.heap.objs.size + 1) sc.names []).lookup y.1).isSome = true) := fun y hy =>
    (S.par y.1 (List.of_mem_zip hy).1).imp id fun q => ⟨q, PySem.W.cellsFrom_some _ _ _ (.inl q)⟩
  refine codeAny_call_function hr.depth (KX _ _ lk) rfl S.co S.gen rfl (PySem.W.codeRec_of KX hcd) (hbd _ _ _ _ (wpAny_newFunctionEnv_cells S.kind kinds fun env he s1 x => ?_))
  subst he
  refine ⟨(e0.mod.nolimit.keeps fun y o e => (e0.bs y o e).1).keeps x.toInCall.keep, codeAny_func ?_⟩
  obtain ⟨t, ht, hq⟩ := hb A st s H vs Q E g (hr.deeper _) hsp
  refine wpAny_mono (ht.run [] s1 (start N vs) H _ (inv_start S hr.hd e0 (len _ _ _ _ hsp) r x) hq) (fun fl s' hs => ?_) fun _ _ z => z
  cases fl with
  | ret u => exact let ⟨v, _, H', J, rv, q⟩ := hs; ⟨v, H', J.os, J.bare, J.base, J.hok, rv, q⟩
  | next => exact let ⟨_, H', J, q⟩ := hs; ⟨V.non, H', J.os, J.bare, J.base, J.hok, rfl, q⟩
  | brk => exact let ⟨_, _, _, q⟩ := hs; q.elim
  | cont => exact let ⟨_, _, _, q⟩ := hs; q.elim
end
section
variable {P : Program} {w : World} {K : PySem.W.Frag} {mg : Str → Option Value} {base : Heap}
/-- a def by its body, no repr under way -/
theorem okG {x qual : Str} {st : Stmt} {f : Addr} {fd : FuncData} {N ps : List Str} {k : Nat} {sp : Sp} (F : Fun K x qual st f fd) (S : FnScope N ps (defScope st)) (len : ∀ vs H Q E, sp vs H Q E → vs.length = ps.length)
    (hb : ∀ (cdv : Value) (A : Around) (out : List Env) (s : Shared) (H : Hp) (vs : List V) (Q : VK) (E : XK), A.guards = some [] → Room k (A.deeper (envOfC qual (defScope st) s.heap.objs.size f cdv)) → sp vs H Q E →
      ∃ t, PSs (cxOf CX0 P w K mg base N qual (defScope st) f cdv A out s H E).nox (defBody st) t ∧ t { nx := fun _ H' => Q .non H', rt := Q } (start N vs) H) : FnG P w K mg base CX0 (k + 1) f fd ps sp := by
  obtain ⟨_, _, _, _, _, _, cdv, _, _, rfl, lk, hcd⟩ := F.ex
  exact fnG_of lk hcd S len fun A out s H vs Q E g hr h => let ⟨t, p, q⟩ := hb cdv A out s H vs Q E g hr h; ⟨t, p.nox, q⟩
end
section
variable {X : Cx} {CX : CXT} {k : Nat} {f : Addr} {fd : FuncData} {ps : List Str} {sp : Sp} {E : XK} {x : Str} {p pos : Pos} {e : Expr} {es : List Expr} {t : TA}
/-- such a def called by its name -/
theorem pe_callG (g : X.A.guards = some []) (F : FnG X.prog X.w X.K X.mg X.base CX k f fd ps sp) (hr : Room k X.A) (hg : Gl X x) (hm : X.mg x = some (.ref f)) (hk : PySem.W.keepIn X.K (.ref f) = true) (hb : Binds X.K fd ps []) (hx : Passes CX X E) (ha : PA X (e :: es) t)
    (hdb : (x == ("__debug__" : Str)) = false := by decide) (he : starEach (e :: es) X.env = (false, eval e X.env) :: starEach es X.env := by rfl) (hpl : (backTo pos (starEach es X.env)).any (·.1) = false := by rfl) :
    PE X (.Call (.Name x p) (e :: es) [] pos) (tCall sp [] E t) := ⟨fun pins s σ H Q I h => by
  refine wpAny_Call_Name_kw (ld_glob I hg hm (PySem.W.callWith_K (h₀ := X.base) I.ok.mod.kin hk (thn (ha.run pos pins s σ H _ I h) fun us s1 hq => ?_) he hpl) hdb)
  obtain ⟨vs, H1, I1, r, q⟩ := hq
  rw [List.append_nil] at q
  have hl : (us ++ []).length = ps.length := by rw [List.append_nil, ← r.length]; exact F.len _ _ _ _ q
  have b := hb s1 us I1.kIn hl
  rw [List.append_nil] at b
  refine ⟨I1.kIn, wpAny_call (codeAny_mono (F.run X.A X.stack s1 H1 ⟨us, []⟩ us vs Q E g hr I1.env0 b r q) fun res s' z => ?_)⟩
  match res, z with
  | .error v, z => exact hx pins σ H1 s1 v s' I1 z
  | .ok (.ret u), z => exact I1.after z
  | .ok .next, z => exact z.elim
  | .ok .brk, z => exact z.elim
  | .ok .cont, z => exact z.elim⟩
end
/-! ### repr -/
def rRepr (K : PySem.W.Frag) : List V → Hp → VK → Prop := fun vs H Q => ∃ (a : Addr) (d : PyData), vs = [.ref a] ∧ Dp K H (.ref a) d ∧ d.showable = true ∧ d.hasDict = false ∧ d.depth ≤ 100 ∧ d.shown.length ≤ sizeLine ∧ Q (.str d.shown) H
theorem cr_repr {X : Cx} (g : X.A.guards = some []) (hu : X.A.units + 101 < cLine) : CallR X (.builtin "repr") (rRepr X.K) := by
  intro pins s σ H vs us Q I r h
  obtain ⟨a, d, rfl, dp, sh, nd, dd, hz, q⟩ := h
  rw [Vals.ref1 r]
  obtain ⟨as, rd⟩ := Dp.reads I d (.ref a) (.ref a) dp rfl
  refine repr_of_reads' rd sh (PyData.noDict_hsm nd) g (by omega) (fun _ _ z => z) (fun h' u tk kp => ?_) hz
  exact ⟨.str d.shown, H, I.kept (t' := tk) kp, ⟨_, rfl⟩, q⟩
/-! ### the law's own def -/
/-- the abstract heap behind the top: the script alone, unless it is one of the module's own objects -/
def scriptH (K : PySem.W.Frag) (a : Addr) (vs : List Value) (ns : List Int) : Hp := fun b => if b = a ∧ K.lookup a = none then some (.frz { cls := .type "list", data := .seq vs.toArray } (.lst (ns.map V.int))) else none
theorem scriptH_some {K : PySem.W.Frag} {a b : Addr} {vs : List Value} {ns : List Int} {u : HO} (h : scriptH K a vs ns b = some u) : b = a ∧ K.lookup a = none ∧ u = .frz { cls := .type "list", data := .seq vs.toArray } (.lst (ns.map V.int)) := by
  unfold scriptH at h
  by_cases c : b = a ∧ K.lookup a = none
  · rw [if_pos c] at h
    exact ⟨c.1, c.2, (Option.some.inj h).symm⟩
  · rw [if_neg c] at h
    cases h
theorem walk_ofG {l : PySem.W.OpenLaw} {n k : Nat} {q : Program} {loose : List Str} {XP : (Str → Option Value) → Heap → Prop} {YP : World → Heap → Prop} {d : DefRec} {K : Params → PySem.W.Frag} {CX : World → CXT} {sp : World → Sp} {x : Str}
    (hn : l.most = some n) (hn2 : n ≤ sizeLine) (hdf : d.params.defaults = []) (hr : Room k callerA) (hY : ∀ (w : World) (h : Heap), YP w h → (K w.params).In h)
    (F : ∀ (w : World) (mg : Str → Option Value) (fa : Addr) (h : Heap), (K w.params).In h → h.Ns mainGlobals mg → mg d.name = some (.ref fa) →
      ∃ fd : FuncData, (∀ (s : Shared) (u : Value), BindsTo s fd ⟨[u], []⟩ [(x, u)]) ∧ ∀ base : Heap, (K w.params).In base → base.Ns mainGlobals mg → FnG l.prog w (K w.params) mg base (CX w) k fa fd [x] (sp w))
    (hsp : ∀ (w : World) (H : Hp) (a : Addr) (ns : List Int), ns.length ≤ n → SqL (K w.params) H a (ns.map V.int) → sp w [.ref a] H (fun v _ => v = .bl true) fun _ _ _ => False)
    (hCX : ∀ (w : World) (H : Hp) (s : Shared) (e : Value) (s' : Shared), CX w [] H s (fun _ _ _ => False) e s' → False) :
    PySem.W.WalkO q loose XP YP l.row.toRowW d [] (fun f vs => PySem.call f vs) := by
  refine Att.attach_call hn hdf fun w s₀ s1 mg mb fa o pm cd doc a vs ns G Y _ _ _ hmg hobj hints hlen hgen => ?_
  have KX := hY w _ Y
  obtain ⟨fd, hbind, hF⟩ := F w mg fa _ KX G.T.g hmg
  have len : vs.length = ns.length := hints.length
  have rv := vals_ints hints
  let H := scriptH (K w.params) a vs ns
  have hS : SqL (K w.params) H a (ns.map V.int) := by
    cases hk : (K w.params).lookup a with
    | none => exact .inl (.inr ⟨_, if_pos ⟨rfl, hk⟩⟩)
    | some ob =>
      have e := KX a ob hk
      rw [hobj] at e
      cases e
      exact .inr ⟨_, vs.toArray, _, hk, rfl, rfl, rfl, by rw [List.size_toArray, len]; omega, by simpa using rv⟩
  have hok : HOk l.prog w H s1.heap := fun b u z => by
    obtain ⟨rfl, _, rfl⟩ := scriptH_some z
    exact ⟨hobj, by rw [List.length_map]; omega, vs, _, rv, hobj⟩
  have keepK : ∀ {b : Addr} {ob : Obj}, s1.heap.get? b = some ob → H b = none → (hidT s1.heap H).get? b = some ob := fun e z => hidT_get e z
  have noDict : ∀ {b : Addr} {ob : Obj} {es : Array DictEntry} {ep : Nat}, s1.heap.get? b = some ob → ob.data = .dict es ep → H b = none := fun {b ob es ep} e z => by
    cases c : H b with
    | none => rfl
    | some u =>
      obtain ⟨rfl, _, _⟩ := scriptH_some c
      rw [hobj] at e
      cases e
      exact absurd z (fun y => Data.noConfusion y)
  have hns : ∀ {b : Addr} {m : Str → Option Value}, s1.heap.Ns b m → (hidT s1.heap H).Ns b m := fun {b m} ⟨ob, es, ep, e, z, r⟩ => ⟨ob, es, ep, keepK e (noDict e z), z, r⟩
  have hKb : (K w.params).In (hidT s1.heap H) := fun b ob e => keepK (KX b ob e) (by
    cases c : H b with
    | none => rfl
    | some u =>
      obtain ⟨rfl, z, _⟩ := scriptH_some c
      rw [z] at e
      cases e)
  have hM : Mod (K w.params) mg (hidT s1.heap H) := ⟨hKb, hns G.T.g, ⟨mb, hns G.T.b, G.T.builtins⟩, let ⟨mc, h1, h2⟩ := G.T.nolimit; ⟨mc, hns h1, h2⟩⟩
  have e0 : Env0 l.prog w (K w.params) mg (hidT s1.heap H) callerA [] s1 H := ⟨rfl, hM, fun b ob e => of_hidT e, Nat.le_of_eq (hidT_size _ _), trivial, fun b z => absurd z List.not_mem_nil, hok, .of_eq hgen⟩
  refine codeAny_mono ((hF _ hKb (hns G.T.g)).run callerA [] s1 H ⟨[.ref a], []⟩ [.ref a] [.ref a] _ _ rfl hr e0 (hbind s1 (.ref a)) (.cons rfl .nil) (hsp w H a ns hlen hS)) fun r s' z => ?_
  match r, z with
  | .error v, z => exact (hCX w H s1 v s' z).elim
  | .ok .next, z => exact z.elim
  | .ok .brk, z => exact z.elim
  | .ok .cont, z => exact z.elim
  | .ok (.ret u), z =>
    obtain ⟨v, H', os, bare, un, hok', rel, rfl⟩ := z
    obtain rfl : u = Value.bool true := rel
    refine ⟨rfl, OldK.of_keep fun b ob e => ?_, os, bare⟩
    cases c : H b with
    | none => exact un.keep b ob e c (fun y => absurd y List.not_mem_nil) (fun y => absurd y List.not_mem_nil)
    | some u =>
      obtain ⟨rfl, _, rfl⟩ := scriptH_some c
      obtain ⟨e2, _⟩ := hok' _ _ (un.frzs _ _ _ c)
      rw [hobj] at e
      cases e
      exact e2
end Rg
namespace Rg
theorem u101 {k : Nat} {A : PySem.Around} (h : L2.Room k A) : A.units + 101 < PySem.cLine := by have := h.un; omega
end Rg

/-! repr of a dict from ints and texts to ints -/
namespace Ra
open PySem PySem.Spec PyProof.Rows L2
def keyT : Key → PyData
  | .inl i => .int i
  | .inr x => .str x
def dictT (kvs : List (Key × Int)) : PyData := .dict (kvs.map fun p => (keyT p.1, .int p.2))
def rReprK (K : PySem.W.Frag) : List V → Hp → VK → Prop := fun vs H Q => ∃ (a : Addr) (kvs : List (Key × Int)), vs = [.ref a] ∧ H a = some (.dK (kvs.map fun p => (p.1, .int p.2))) ∧ (dictT kvs).showable = true ∧ (dictT kvs).depth ≤ 100 ∧ (dictT kvs).shown.length ≤ sizeLine ∧ Q (.str (dictT kvs).shown) H
theorem reads_kvs {P : Program} {w : World} {h : Heap} : ∀ {es : List DictEntry} {kvs : List (Key × Int)} {vs : List (Key × Value)}, KV (kvs.map fun p => (p.1, V.int p.2)) vs → Pairs (mixKind P w) es vs → ReadsAll h (es.map (·.key)) ((kvs.map fun p => (keyT p.1, PyData.int p.2)).map (·.1)) [] ∧ ReadsAll h (es.map (·.val)) ((kvs.map fun p => (keyT p.1, PyData.int p.2)).map (·.2)) []
  | [], [], _, _, _ => ⟨.nil, .nil⟩
  | [], _ :: _, _, r, p => by
    cases r
    cases p
  | e :: es, [], _, r, p => by
    cases r
    cases p
  | e :: es, kv :: kvs, _, r, p => by
    cases r with
    | cons h1 t =>
      cases p with
      | cons k1 k2 ps =>
        obtain ⟨r1, r2⟩ := reads_kvs t ps
        obtain ⟨e1, u, e2⟩ := h1
        refine ⟨ReadsAll.cons (as := []) (bs := []) ?_ r1, ReadsAll.cons (as := []) (bs := []) ?_ r2⟩
        · show Reads h e.key (keyT kv.1) []
          rw [← e1] at k1
          have k1 : keyIs kv.1 e.key = true := k1
          rcases keyIs_shape k1 with ⟨i, t, q1, q2⟩ | ⟨x, t, q1, q2⟩
          · rw [q2]
            rw [q1]
            exact Reads.int i t
          · rw [q2]
            rw [q1]
            exact Reads.str x t
        · show Reads h e.val (.int kv.2) []
          rw [k2, e2]
          exact Reads.int _ _
theorem cr_reprK {X : Cx} (g : X.A.guards = some []) (hu : X.A.units + 101 < cLine) : CallR X (.builtin "repr") (rReprK X.K) := by
  intro pins s σ H vs us Q I r h
  obtain ⟨a, kvs, rfl, ha, sh, dd, hz, q⟩ := h
  rw [Vals.ref1 r]
  obtain ⟨_, sm, vs, kv, o, es, ep, h1, h2, h3, _, pr, _⟩ := dk_of I.hok ha
  obtain ⟨r1, r2⟩ := reads_kvs (h := s.heap) kv pr
  have rd : Reads s.heap (.ref a) (dictT kvs) (a :: [] ++ []) := Reads.dict h1 h2.1 h3 r1 r2
  refine repr_of_reads' rd sh (fun _ m => ?_) g (by omega) (fun _ _ z => z) (fun h' u tk kp => ?_) hz
  · rcases List.mem_cons.mp m with e | m
    · rw [← e] at sm
      simp at sm
    · cases m
  · exact ⟨.str (dictT kvs).shown, H, I.kept (t' := tk) kp, ⟨_, rfl⟩, q⟩
end Ra

/-! repr of data of any kind, dicts within them too -/
namespace Ri
open PySem PySem.Spec PyProof.Rows L2
mutual
/-- what stands at a value, and none of its dicts is the one of the modules -/
inductive Rs (h : Heap) : Value → PyData → Prop
  | non : Rs h .none .none
  | bl (b : Bool) : Rs h (.bool b) (.bool b)
  | int (i : Int) (t : Tok) : Rs h (.int i t) (.int i)
  | str (x : Str) (t : Tok) : Rs h (.str x t) (.str x)
  | lst {a : Addr} {o : Obj} {us : Array Value} {n : Nat} {ds : List PyData} : h.get? a = some o → o.cls = .type "list" → o.data = .seq us n → RsAll h us.toList ds → Rs h (.ref a) (.list ds)
  | tup {a : Addr} {o : Obj} {us : Array Value} {n : Nat} {ds : List PyData} : h.get? a = some o → o.cls = .type "tuple" → o.data = .seq us n → RsAll h us.toList ds → Rs h (.ref a) (.tuple ds)
  | dct {a : Addr} {o : Obj} {es : Array DictEntry} {n : Nat} {kd : List (PyData × PyData)} : (a == sysModules) = false → h.get? a = some o → o.cls = .type "dict" → o.data = .dict es n → RsAll h (es.toList.map (·.key)) (kd.map (·.1)) → RsAll h (es.toList.map (·.val)) (kd.map (·.2)) → Rs h (.ref a) (.dict kd)
inductive RsAll (h : Heap) : List Value → List PyData → Prop
  | nil : RsAll h [] []
  | cons {v : Value} {vs : List Value} {d : PyData} {ds : List PyData} : Rs h v d → RsAll h vs ds → RsAll h (v :: vs) (d :: ds)
end
mutual
theorem Rs.rd {h : Heap} : ∀ {v : Value} {d : PyData}, Rs h v d → ∃ as, Reads h v d as
  | _, _, .non => ⟨_, .none⟩
  | _, _, .bl b => ⟨_, .bool b⟩
  | _, _, .int i t => ⟨_, .int i t⟩
  | _, _, .str x t => ⟨_, .str x t⟩
  | _, _, .lst e1 e2 e3 q => (RsAll.rd q).elim fun _ r => ⟨_, .list e1 e2 e3 r⟩
  | _, _, .tup e1 e2 e3 q => (RsAll.rd q).elim fun _ r => ⟨_, .tuple e1 e2 e3 r⟩
  | _, _, .dct _ e1 e2 e3 q1 q2 => (RsAll.rd q1).elim fun _ r1 => (RsAll.rd q2).elim fun _ r2 => ⟨_, .dict e1 e2 e3 r1 r2⟩
theorem RsAll.rd {h : Heap} : ∀ {vs : List Value} {ds : List PyData}, RsAll h vs ds → ∃ as, ReadsAll h vs ds as
  | _, _, .nil => ⟨_, .nil⟩
  | _, _, .cons q1 q2 => (Rs.rd q1).elim fun _ r1 => (RsAll.rd q2).elim fun _ r2 => ⟨_, .cons r1 r2⟩
end
section
variable {P : Program} {w : World} {h : Heap}
/-- the text of one value, of a row of them -/
def Tx (P : Program) (w : World) (h : Heap) (n : Nat) (v : Value) (t : Str) : Prop := ∃ bs, ReadAtMost h n bs ∧ ReprK P w bs h n v t
def TxAll (P : Program) (w : World) (h : Heap) (n : Nat) (vs : List Value) (ts : List Str) : Prop := ∃ bs, ReadAtMost h n bs ∧ ReprAllK P w bs h n vs ts
theorem tx_is {v : Value} {t : Str} (q : ReprIs P w v t) (n : Nat) : Tx P w h n v t := ⟨[], fun _ m => absurd m List.not_mem_nil, .of_is q _ _ _⟩
theorem two {n : Nat} {b1 b2 : List Addr} {vs us : List Value} {ts ss : List Str} (r1 : ReadAtMost h n b1) (r2 : ReadAtMost h n b2) (k1 : ReprAllK P w b1 h n vs ts) (k2 : ReprAllK P w b2 h n us ss) :
    ReadAtMost h n (b1 ++ b2) ∧ ReprAllK P w (b1 ++ b2) h n vs ts ∧ ReprAllK P w (b1 ++ b2) h n us ss :=
  ⟨r1.append r2, k1.more_le (fun _ m => List.mem_append.mpr (.inl m)) (Nat.le_refl n), k2.more_le (fun _ m => List.mem_append.mpr (.inr m)) (Nat.le_refl n)⟩
theorem Tx.up {n m : Nat} {v : Value} {t : Str} (l : n ≤ m) (q : Tx P w h n v t) : Tx P w h m v t := let ⟨bs, r, k⟩ := q; ⟨bs, r.mono l, k.level_le l⟩
theorem TxAll.up {n m : Nat} {v : List Value} {t : List Str} (l : n ≤ m) (q : TxAll P w h n v t) : TxAll P w h m v t := let ⟨bs, r, k⟩ := q; ⟨bs, r.mono l, k.more_le (fun _ z => z) l⟩
theorem TxAll.snoc {n : Nat} {v : Value} {t : Str} {vs : List Value} {ts : List Str} (q : Tx P w h n v t) (q2 : TxAll P w h n vs ts) : TxAll P w h n (v :: vs) (t :: ts) := by
  obtain ⟨b1, r1, k1⟩ := q
  obtain ⟨b2, r2, k2⟩ := q2
  obtain ⟨r, j1, j2⟩ := two r1 r2 (.cons k1 .nil) k2
  cases j1 with
  | cons j1 _ => exact ⟨_, r, .cons j1 j2⟩
/-- what a call of repr needs to know of a container: its kind's own repr, from the state at hand -/
def CallsTo (P : Program) (w : World) (h : Heap) (n : Nat) (v : Value) (t : Str) : Prop :=
  ∀ (A : Around) (E : Value → Shared → Prop) (s : Shared) (Q : Value → Shared → Prop), A.guards = some [] → A.units + (n + 1) < cLine → (∀ b o, h.get? b = some o → s.heap.get? b = some o) → (∀ h' u tk, (∀ b o, s.heap.get? b = some o → h'.get? b = some o) → Q (.str t u) { s with heap := h', toks := tk }) →
    wpAny (model P w) A (call (.builtin "repr") [v]) Q E s
theorem lst_tx {a : Addr} {o : Obj} {us : Array Value} {n : Nat} {ds : List PyData} (e1 : h.get? a = some o) (e2 : o.cls = .type "list") (e3 : o.data = .seq us n) (q : RsAll h us.toList ds)
    (k : TxAll P w h (PyData.depthAll ds) us.toList (PyData.shownAll ds)) (hz : (PyData.list ds).shown.length ≤ sizeLine) : Tx P w h (PyData.list ds).depth (.ref a) (PyData.list ds).shown ∧ CallsTo P w h (PyData.list ds).depth (.ref a) (PyData.list ds).shown := by
  obtain ⟨bs, r, k⟩ := k
  obtain ⟨as, rd⟩ := (Rs.lst e1 e2 e3 q).rd
  have dd : (PyData.list ds).depth = PyData.depthAll ds + 1 := by simp only [PyData.depth] <;> omega
  have na := not_mem_of_deeper rd (show PyData.depthAll ds < (PyData.list ds).depth by omega) r
  have sh : (PyData.list ds).shown = listText (PyData.shownAll ds) := by simp only [PyData.shown]
  have r' := ReadAtMost.cons rd (show PyData.depthAll ds ≤ (PyData.list ds).depth by omega) r
  rw [sh] at hz ⊢
  rw [dd] at r' ⊢
  obtain ⟨l⟩ := us
  cases l with
  | nil =>
    have q' : RsAll h [] ds := q
    cases q' with
    | nil =>
      have e : listText (PyData.shownAll []) = "[]" := by simp only [PyData.shownAll, listText_nil]
      rw [e]
      exact ⟨⟨_, r', ReprK.listEmpty e1 e2 e3⟩, fun A E s Q hg hu hk hQ => call_repr_slot (by omega) ⟨o, hk _ _ e1, e2⟩ F.slot_list_repr.toG (call_list_repr_empty ⟨o, hk _ _ e1, e2⟩ (hk _ _ e1) e3 ⟨_, _, rfl, hQ s.heap _ _ fun _ _ z => z⟩)⟩
  | cons x l =>
    have len : (PyData.shownAll ds).length = (x :: l).toArray.size := by simpa using k.length_eq
    have it : ∀ (i : Nat) (y : Value), (x :: l).toArray[i]? = some y → ∃ t, (PyData.shownAll ds)[i]? = some t ∧ ReprK P w bs h (PyData.depthAll ds) y t := fun i y e => k.item i y (by simpa using e)
    exact ⟨⟨_, r', ReprK.list e1 e2 e3 na len it⟩, fun A E s Q hg hu hk hQ => call_repr_slot (by omega) ⟨o, hk _ _ e1, e2⟩ F.slot_list_repr.toG
      (call_list_reprK e1 e2 e3 na len it (A := A.in1) hg (fun b _ => Clear.nil b) (by show A.units + 1 + _ < _; omega) hk (fun h' u tk z => ⟨_, _, rfl, hQ h' u tk z⟩) hz)⟩
theorem tup_tx {a : Addr} {o : Obj} {us : Array Value} {n : Nat} {ds : List PyData} (e1 : h.get? a = some o) (e2 : o.cls = .type "tuple") (e3 : o.data = .seq us n) (q : RsAll h us.toList ds)
    (k : TxAll P w h (PyData.depthAll ds) us.toList (PyData.shownAll ds)) (hz : (PyData.tuple ds).shown.length ≤ sizeLine) : Tx P w h (PyData.tuple ds).depth (.ref a) (PyData.tuple ds).shown ∧ CallsTo P w h (PyData.tuple ds).depth (.ref a) (PyData.tuple ds).shown := by
  obtain ⟨bs, r, k⟩ := k
  obtain ⟨as, rd⟩ := (Rs.tup e1 e2 e3 q).rd
  have dd : (PyData.tuple ds).depth = PyData.depthAll ds + 1 := by simp only [PyData.depth] <;> omega
  have na := not_mem_of_deeper rd (show PyData.depthAll ds < (PyData.tuple ds).depth by omega) r
  have sh : (PyData.tuple ds).shown = tupleText (PyData.shownAll ds) := by simp only [PyData.shown]
  have r' := ReadAtMost.cons rd (show PyData.depthAll ds ≤ (PyData.tuple ds).depth by omega) r
  rw [sh] at hz ⊢
  rw [dd] at r' ⊢
  exact ⟨⟨_, r', ReprK.tuple e1 e2 e3 na k⟩, fun A E s Q hg hu hk hQ => call_repr_slot (by omega) ⟨o, hk _ _ e1, e2⟩ F.slot_tuple_repr
    (call_tuple_reprK e1 e2 e3 na k (A := A.in1) hg (fun b _ => Clear.nil b) (by show A.units + 1 + _ < _; omega) hk (fun h' u tk z => ⟨_, _, rfl, hQ h' u tk z⟩) hz)⟩
theorem dct_tx {a : Addr} {o : Obj} {es : Array DictEntry} {n : Nat} {kd : List (PyData × PyData)} (e0 : (a == sysModules) = false) (e1 : h.get? a = some o) (e2 : o.cls = .type "dict") (e3 : o.data = .dict es n) (q1 : RsAll h (es.toList.map (·.key)) (kd.map (·.1))) (q2 : RsAll h (es.toList.map (·.val)) (kd.map (·.2)))
    (k1 : TxAll P w h (PyData.depthAll (kd.map (·.1))) (es.toList.map (·.key)) (PyData.shownAll (kd.map (·.1)))) (k2 : TxAll P w h (PyData.depthAll (kd.map (·.2))) (es.toList.map (·.val)) (PyData.shownAll (kd.map (·.2))))
    (hz : (PyData.dict kd).shown.length ≤ sizeLine) : Tx P w h (PyData.dict kd).depth (.ref a) (PyData.dict kd).shown ∧ CallsTo P w h (PyData.dict kd).depth (.ref a) (PyData.dict kd).shown := by
  obtain ⟨b1, r1, k1⟩ := k1.up (PyData.depthAll_keys_le kd)
  obtain ⟨b2, r2, k2⟩ := k2.up (PyData.depthAll_vals_le kd)
  obtain ⟨r, j1, j2⟩ := two r1 r2 k1 k2
  obtain ⟨as, rd⟩ := (Rs.dct e0 e1 e2 e3 q1 q2).rd
  have dd : (PyData.dict kd).depth = PyData.depthKv kd + 1 := by simp only [PyData.depth] <;> omega
  have na := not_mem_of_deeper rd (show PyData.depthKv kd < (PyData.dict kd).depth by omega) r
  have r' := ReadAtMost.cons rd (show PyData.depthKv kd ≤ (PyData.dict kd).depth by omega) r
  have sh : (PyData.dict kd).shown = dictText (PyData.shownKv kd) := by simp only [PyData.shown]
  rw [sh, PyData.shownKv_eq] at hz ⊢
  rw [dd] at r' ⊢
  have ee := ReprEntriesK.of_two es.toList _ _ j1 j2
  exact ⟨⟨_, r', ReprK.dict e1 e2 e3 e0 na ee⟩, fun A E s Q hg hu hk hQ => call_repr_slot (by omega) ⟨o, hk _ _ e1, e2⟩ F.slot_dict_repr
    (call_dict_reprK e1 e2 e3 e0 na ee (A := A.in1) hg (fun b _ => Clear.nil b) (by show A.units + 1 + _ < _; omega) hk (fun h' u tk z => ⟨_, _, rfl, hQ h' u tk z⟩) hz)⟩
mutual
theorem Rs.both : ∀ {v : Value} {d : PyData}, Rs h v d → d.showable = true → d.shown.length ≤ sizeLine → Tx P w h d.depth v d.shown ∧ CallsTo P w h d.depth v d.shown
  | _, _, .non, _, _ => ⟨by simp only [PyData.shown]; exact tx_is ReprIs.none _, fun A E s Q _ _ _ hQ => PySem.P.repr_of_none (hQ s.heap _ _ fun _ _ z => z)⟩
  | _, _, .bl b, _, _ => ⟨by simp only [PyData.shown]; exact tx_is (ReprIs.bool b) _, fun A E s Q _ _ _ hQ => PySem.P.repr_of_bool (hQ s.heap _ _ fun _ _ z => z)⟩
  | _, _, .int i t, hs, _ => by
    have hi : i.natAbs.log2 < 1920 := by simpa only [PyData.showable, decide_eq_true_eq] using hs
    exact ⟨by simp only [PyData.shown]; exact tx_is (ReprIs.int t hi) _, fun A E s Q _ _ _ hQ => PySem.P.repr_of_int hi (hQ s.heap _ _ fun _ _ z => z)⟩
  | _, _, .str x t, _, hz => by
    have hz : (reprText x).length ≤ sizeLine := by simpa only [PyData.shown] using hz
    exact ⟨by simp only [PyData.shown]; exact tx_is (ReprIs.str x t hz) _, fun A E s Q _ _ _ hQ => PySem.P.repr_of_str (hQ s.heap _ _ fun _ _ z => z) hz⟩
  | _, _, .lst e1 e2 e3 q, hs, hz => lst_tx e1 e2 e3 q (RsAll.both q (by simpa only [PyData.showable] using hs) fun t m => Nat.le_trans (listText_mem_le m) (by simpa only [PyData.shown] using hz)) hz
  | _, _, .tup e1 e2 e3 q, hs, hz => tup_tx e1 e2 e3 q (RsAll.both q (by simpa only [PyData.showable] using hs) fun t m => Nat.le_trans (tupleText_mem_le m) (by simpa only [PyData.shown] using hz)) hz
  | _, _, .dct (kd := kd) e0 e1 e2 e3 q1 q2, hs, hz =>
    have sp := PyData.showableKv_split kd (by simpa only [PyData.showable] using hs)
    have hz' : (dictText (PyData.shownKv kd)).length ≤ sizeLine := by simpa only [PyData.shown] using hz
    dct_tx e0 e1 e2 e3 q1 q2
      (RsAll.both q1 sp.1 fun t m => (PyData.shownKv_key_le kd t m).elim fun _ z => Nat.le_trans z.2 (Nat.le_trans (dictText_mem_le z.1) hz'))
      (RsAll.both q2 sp.2 fun t m => (PyData.shownKv_val_le kd t m).elim fun _ z => Nat.le_trans z.2 (Nat.le_trans (dictText_mem_le z.1) hz')) hz
theorem RsAll.both : ∀ {vs : List Value} {ds : List PyData}, RsAll h vs ds → PyData.showableAll ds = true → (∀ t ∈ PyData.shownAll ds, t.length ≤ sizeLine) → TxAll P w h (PyData.depthAll ds) vs (PyData.shownAll ds)
  | _, _, .nil, _, _ => ⟨[], fun _ m => absurd m List.not_mem_nil, by simp only [PyData.shownAll]; exact .nil⟩
  | _, _, .cons (d := d) (ds := ds) q1 q2, hs, hz => by
    simp only [PyData.showableAll, Bool.and_eq_true] at hs
    simp only [PyData.shownAll, List.mem_cons] at hz
    simp only [PyData.shownAll, PyData.depthAll]
    exact TxAll.snoc ((Rs.both q1 hs.1 (hz _ (.inl rfl))).1.up (Nat.le_max_left ..)) ((RsAll.both q2 hs.2 fun t m => hz t (.inr m)).up (Nat.le_max_right ..))
end
end
/-! ### seen from the abstract heap -/
mutual
/-- data, off t -/
inductive Dd (H : Hp) (t : Addr) : V → PyData → Prop
  | non : Dd H t .non .none
  | bl (b : Bool) : Dd H t (.bl b) (.bool b)
  | int (i : Int) : Dd H t (.int i) (.int i)
  | str (x : Str) : Dd H t (.str x) (.str x)
  | lst {a : Addr} {xs : List V} {ds : List PyData} : a ≠ t → H a = some (.lst xs) → DdAll H t xs ds → Dd H t (.ref a) (.list ds)
  | tup {a : Addr} {xs : List V} {ds : List PyData} : a ≠ t → H a = some (.tup xs) → DdAll H t xs ds → Dd H t (.ref a) (.tuple ds)
  | dct {a : Addr} {kvs : List (Key × V)} {kd : List (PyData × PyData)} : a ≠ t → H a = some (.dK kvs) → kd.map (·.1) = kvs.map (fun p => Ra.keyT p.1) → DdAll H t (kvs.map (·.2)) (kd.map (·.2)) → Dd H t (.ref a) (.dict kd)
inductive DdAll (H : Hp) (t : Addr) : List V → List PyData → Prop
  | nil : DdAll H t [] []
  | cons {v : V} {vs : List V} {d : PyData} {ds : List PyData} : Dd H t v d → DdAll H t vs ds → DdAll H t (v :: vs) (d :: ds)
end
theorem keys_rs {P : Program} {w : World} {h : Heap} : ∀ {es : List DictEntry} {kvs : List (Key × V)} {vs : List (Key × Value)}, KV kvs vs → Pairs (mixKind P w) es vs → RsAll h (es.map (·.key)) (kvs.map fun p => Ra.keyT p.1) ∧ Vals (kvs.map (·.2)) (es.map (·.val))
  | [], [], _, _, _ => ⟨.nil, .nil⟩
  | [], _ :: _, _, r, p => by
    cases r
    cases p
  | e :: es, [], _, r, p => by
    cases r
    cases p
  | e :: es, kv :: kvs, _, r, p => by
    cases r with
    | cons h1 t =>
      cases p with
      | cons k1 k2 ps =>
        obtain ⟨r1, r2⟩ := keys_rs (h := h) t ps
        obtain ⟨e1, e2⟩ := h1
        refine ⟨.cons ?_ r1, .cons (by show L2.RelV kv.2 e.val; rw [k2]; exact e2) r2⟩
        show Rs h e.key (Ra.keyT kv.1)
        rw [← e1] at k1
        have k1 : keyIs kv.1 e.key = true := k1
        rcases keyIs_shape k1 with ⟨i, t, q1, q2⟩ | ⟨x, t, q1, q2⟩
        · rw [q2, q1]
          exact .int i t
        · rw [q2, q1]
          exact .str x t
section
variable {X : Cx} {pins : List (Addr × Obj)} {σ : L2.St} {H : Hp} {s : Shared} {t : Addr}
mutual
theorem Dd.rs (I : Inv X pins σ H s) : ∀ {v : V} {d : PyData}, Dd H t v d → ∀ {u : Value}, RelV v u → Rs s.heap u d
  | _, _, .non, _, r => by cases r; exact .non
  | _, _, .bl b, _, r => by cases r; exact .bl b
  | _, _, .int i, _, r => by obtain ⟨t, rfl⟩ := r; exact .int i t
  | _, _, .str x, _, r => by obtain ⟨t, rfl⟩ := r; exact .str x t
  | _, _, .lst _ hs ha, _, r => by
    cases r
    obtain ⟨its, rv, ⟨o, n, ho, hc, _, hd⟩, _⟩ := I.list (.of hs)
    exact .lst ho hc hd (DdAll.rs I ha rv)
  | _, _, .tup _ hs ha, _, r => by
    cases r
    obtain ⟨its, rv, ⟨o, ho, hc, n, hd⟩, _⟩ := I.tuple (.of hs)
    exact .tup ho hc hd (DdAll.rs I ha rv)
  | _, _, .dct _ hd ek ha, _, r => by
    cases r
    obtain ⟨_, sm, vs, kv, o, es, ep, h1, h2, h3, _, pr, _⟩ := dk_of I.hok hd
    obtain ⟨r1, r2⟩ := keys_rs (h := s.heap) kv pr
    exact .dct sm h1 h2.1 h3 (by rw [ek]; exact r1) (DdAll.rs I ha r2)
theorem DdAll.rs (I : Inv X pins σ H s) : ∀ {vs : List V} {ds : List PyData}, DdAll H t vs ds → ∀ {us : List Value}, Vals vs us → RsAll s.heap us ds
  | _, _, .nil, _, r => by cases r; exact .nil
  | _, _, .cons h1 h2, _, r => by
    cases r with
    | cons r1 r2 => exact .cons (Dd.rs I h1 r1) (DdAll.rs I h2 r2)
end
end
/-- repr(x), of any data -/
def rReprA : List V → Hp → VK → Prop := fun vs H Q => ∃ (t : Addr) (x : V) (d : PyData), vs = [x] ∧ Dd H t x d ∧ d.showable = true ∧ d.depth ≤ 99 ∧ d.shown.length ≤ sizeLine ∧ Q (.str d.shown) H
theorem cr_reprA {X : Cx} (g : X.A.guards = some []) (hu : X.A.units + 101 < cLine) : CallR X (.builtin "repr") rReprA := by
  intro pins s σ H vs us Q I r h
  obtain ⟨t, x, d, rfl, dd, sh, dp, hz, q⟩ := h
  match us, r with
  | [u], .cons r .nil =>
    refine ((Dd.rs I dd r).both (P := X.prog) (w := X.w) sh hz).2 X.A _ s _ g (by omega) (fun _ _ z => z) fun h' u tk kp => ?_
    exact ⟨.str d.shown, H, I.kept (t' := tk) kp, ⟨_, rfl⟩, q⟩
/-! ### kept -/
section
variable {H H' : Hp} {t : Addr}
mutual
theorem Dd.but (s : Rd.But t H H') : ∀ {v : V} {d : PyData}, Dd H t v d → Dd H' t v d
  | _, _, .non => .non
  | _, _, .bl b => .bl b
  | _, _, .int i => .int i
  | _, _, .str x => .str x
  | _, _, .lst n h q => .lst n (s _ _ n h) (DdAll.but s q)
  | _, _, .tup n h q => .tup n (s _ _ n h) (DdAll.but s q)
  | _, _, .dct n h e q => .dct n (s _ _ n h) e (DdAll.but s q)
theorem DdAll.but (s : Rd.But t H H') : ∀ {vs : List V} {ds : List PyData}, DdAll H t vs ds → DdAll H' t vs ds
  | _, _, .nil => .nil
  | _, _, .cons h1 h2 => .cons (Dd.but s h1) (DdAll.but s h2)
end
theorem Dd.same {v : V} {d : PyData} (s : Same H H') (h : Dd H t v d) : Dd H' t v d := h.but (.of s)
theorem DdAll.len {vs : List V} {ds : List PyData} (h : DdAll H t vs ds) : vs.length = ds.length := by
  match vs, ds, h with
  | _, _, .nil => rfl
  | _, _, .cons _ h => rw [List.length_cons, List.length_cons, DdAll.len h]
theorem DdAll.get : ∀ {vs : List V} {ds : List PyData}, DdAll H t vs ds → ∀ {i : Nat} {v : V}, vs[i]? = some v → ∃ d, ds[i]? = some d ∧ Dd H t v d
  | _, _, .nil, i, v, e => by cases e
  | _, _, .cons h1 h2, i, v, e => by
    cases i with
    | zero =>
      cases e
      exact ⟨_, rfl, h1⟩
    | succ i => exact DdAll.get h2 e
theorem DdAll.get' : ∀ {vs : List V} {ds : List PyData}, DdAll H t vs ds → ∀ {i : Nat} {d : PyData}, ds[i]? = some d → ∃ v, vs[i]? = some v ∧ Dd H t v d
  | _, _, .nil, i, v, e => by cases e
  | _, _, .cons h1 h2, i, v, e => by
    cases i with
    | zero =>
      cases e
      exact ⟨_, rfl, h1⟩
    | succ i => exact DdAll.get' h2 e
theorem DdAll.app {vs us : List V} {ds es : List PyData} (h1 : DdAll H t vs ds) (h2 : DdAll H t us es) : DdAll H t (vs ++ us) (ds ++ es) := by
  match vs, ds, h1 with
  | _, _, .nil => exact h2
  | _, _, .cons h h1 => exact .cons h (DdAll.app h1 h2)
theorem DdAll.strs : ∀ (zs : List Str), DdAll H t (zs.map V.str) (zs.map PyData.str)
  | [] => .nil
  | z :: zs => .cons (.str z) (DdAll.strs zs)
theorem DdAll.take {vs : List V} {ds : List PyData} (h : DdAll H t vs ds) (n : Nat) : DdAll H t (vs.take n) (ds.take n) := by
  match vs, ds, h, n with
  | _, _, .nil, n => rw [List.take_nil, List.take_nil]; exact .nil
  | _, _, .cons h h1, 0 => exact .nil
  | _, _, .cons h h1, n + 1 => exact .cons h (DdAll.take h1 n)
theorem DdAll.drop {vs : List V} {ds : List PyData} (h : DdAll H t vs ds) (n : Nat) : DdAll H t (vs.drop n) (ds.drop n) := by
  match vs, ds, h, n with
  | _, _, .nil, n => rw [List.drop_nil, List.drop_nil]; exact .nil
  | _, _, .cons h h1, 0 => exact .cons h h1
  | _, _, .cons h h1, n + 1 => exact DdAll.drop h1 n
end
/-! ### their kinds -/
def tyD : PyData → String
  | .none => "NoneType" | .bool _ => "bool" | .int _ => "int" | .str _ => "str" | .list _ => "list" | .tuple _ => "tuple" | .dict _ => "dict"
def isStrD : PyData → Bool | .str _ => true | _ => false
def isTupD : PyData → Bool | .tuple _ => true | _ => false
def isLstD : PyData → Bool | .list _ => true | _ => false
def isDctD : PyData → Bool | .dict _ => true | _ => false
def isBoolD : PyData → Bool | .bool _ => true | _ => false
def isIntD : PyData → Bool | .int _ => true | .bool _ => true | _ => false
theorem Dd.ty {K : PySem.W.Frag} {H : Hp} {t : Addr} {x : V} {d : PyData} (h : Dd H t x d) : TyX K H x (.type (tyD d)) := by
  cases h with
  | non => exact .base .non
  | bl b => exact .base (.bl b)
  | int i => exact .base (.int i)
  | str x => exact .base (.str _)
  | lst _ h => exact .base (.lst h)
  | tup _ h => exact .base (.tup h)
  | dct _ h => exact .base (.dK h)
theorem kStr : ∀ d : PyData, kitB (tyD d) "str" = some (isStrD d)
  | .none => (by decide +kernel : kitB "NoneType" "str" = some false)
  | .bool _ => (by decide +kernel : kitB "bool" "str" = some false)
  | .int _ => (by decide +kernel : kitB "int" "str" = some false)
  | .str _ => (by decide +kernel : kitB "str" "str" = some true)
  | .list _ => (by decide +kernel : kitB "list" "str" = some false)
  | .tuple _ => (by decide +kernel : kitB "tuple" "str" = some false)
  | .dict _ => (by decide +kernel : kitB "dict" "str" = some false)
theorem kTup : ∀ d : PyData, kitB (tyD d) "tuple" = some (isTupD d)
  | .none => (by decide +kernel : kitB "NoneType" "tuple" = some false)
  | .bool _ => (by decide +kernel : kitB "bool" "tuple" = some false)
  | .int _ => (by decide +kernel : kitB "int" "tuple" = some false)
  | .str _ => (by decide +kernel : kitB "str" "tuple" = some false)
  | .list _ => (by decide +kernel : kitB "list" "tuple" = some false)
  | .tuple _ => (by decide +kernel : kitB "tuple" "tuple" = some true)
  | .dict _ => (by decide +kernel : kitB "dict" "tuple" = some false)
theorem kLst : ∀ d : PyData, kitB (tyD d) "list" = some (isLstD d)
  | .none => (by decide +kernel : kitB "NoneType" "list" = some false)
  | .bool _ => (by decide +kernel : kitB "bool" "list" = some false)
  | .int _ => (by decide +kernel : kitB "int" "list" = some false)
  | .str _ => (by decide +kernel : kitB "str" "list" = some false)
  | .list _ => (by decide +kernel : kitB "list" "list" = some true)
  | .tuple _ => (by decide +kernel : kitB "tuple" "list" = some false)
  | .dict _ => (by decide +kernel : kitB "dict" "list" = some false)
theorem kDct : ∀ d : PyData, kitB (tyD d) "dict" = some (isDctD d)
  | .none => (by decide +kernel : kitB "NoneType" "dict" = some false)
  | .bool _ => (by decide +kernel : kitB "bool" "dict" = some false)
  | .int _ => (by decide +kernel : kitB "int" "dict" = some false)
  | .str _ => (by decide +kernel : kitB "str" "dict" = some false)
  | .list _ => (by decide +kernel : kitB "list" "dict" = some false)
  | .tuple _ => (by decide +kernel : kitB "tuple" "dict" = some false)
  | .dict _ => (by decide +kernel : kitB "dict" "dict" = some true)
theorem kBool : ∀ d : PyData, kitB (tyD d) "bool" = some (isBoolD d)
  | .none => (by decide +kernel : kitB "NoneType" "bool" = some false)
  | .bool _ => (by decide +kernel : kitB "bool" "bool" = some true)
  | .int _ => (by decide +kernel : kitB "int" "bool" = some false)
  | .str _ => (by decide +kernel : kitB "str" "bool" = some false)
  | .list _ => (by decide +kernel : kitB "list" "bool" = some false)
  | .tuple _ => (by decide +kernel : kitB "tuple" "bool" = some false)
  | .dict _ => (by decide +kernel : kitB "dict" "bool" = some false)
theorem kInt : ∀ d : PyData, kitB (tyD d) "int" = some (isIntD d)
  | .none => (by decide +kernel : kitB "NoneType" "int" = some false)
  | .bool _ => (by decide +kernel : kitB "bool" "int" = some true)
  | .int _ => (by decide +kernel : kitB "int" "int" = some true)
  | .str _ => (by decide +kernel : kitB "str" "int" = some false)
  | .list _ => (by decide +kernel : kitB "list" "int" = some false)
  | .tuple _ => (by decide +kernel : kitB "tuple" "int" = some false)
  | .dict _ => (by decide +kernel : kitB "dict" "int" = some false)
section
variable {K : PySem.W.Frag} {H : Hp} {t : Addr} {x : V} {d : PyData} {Q : VK}
theorem askStr (h : Dd H t x d) (q : Q (.bl (isStrD d)) H) : rIsi K [x, .ty "str"] H Q := Rd.isi h.ty (kStr d) q
theorem askTup (h : Dd H t x d) (q : Q (.bl (isTupD d)) H) : rIsi K [x, .ty "tuple"] H Q := Rd.isi h.ty (kTup d) q
theorem askLst (h : Dd H t x d) (q : Q (.bl (isLstD d)) H) : rIsi K [x, .ty "list"] H Q := Rd.isi h.ty (kLst d) q
theorem askDct (h : Dd H t x d) (q : Q (.bl (isDctD d)) H) : rIsi K [x, .ty "dict"] H Q := Rd.isi h.ty (kDct d) q
theorem askBool (h : Dd H t x d) (q : Q (.bl (isBoolD d)) H) : rIsi K [x, .ty "bool"] H Q := Rd.isi h.ty (kBool d) q
theorem askInt (h : Dd H t x d) (q : Q (.bl (isIntD d)) H) : rIsi K [x, .ty "int"] H Q := Rd.isi h.ty (kInt d) q
end
/-! ### small enough to be shown -/
structure Sd (m n : Nat) (d : PyData) : Prop where
  sh : d.showable = true
  dp : d.depth ≤ m
  sz : d.shown.length ≤ n
structure SdAll (m n : Nat) (ds : List PyData) : Prop where
  sh : PyData.showableAll ds = true
  dp : PyData.depthAll ds ≤ m
  sz : ((PyData.shownAll ds).map (·.length)).sum ≤ n
theorem Sd.up {m n m' n' : Nat} {d : PyData} (h : Sd m n d) (a : m ≤ m') (b : n ≤ n') : Sd m' n' d := ⟨h.sh, Nat.le_trans h.dp a, Nat.le_trans h.sz b⟩
theorem sdAll {m n : Nat} : ∀ {ds : List PyData}, (∀ d ∈ ds, Sd m n d) → SdAll m (n * ds.length) ds
  | [], _ => ⟨rfl, Nat.zero_le _, Nat.zero_le _⟩
  | d :: ds, h => by
    have a := h d (List.mem_cons_self ..)
    have b := sdAll (m := m) (n := n) fun x q => h x (List.mem_cons_of_mem d q)
    refine ⟨by simp only [PyData.showableAll, a.sh, b.sh, Bool.and_self], by simp only [PyData.depthAll]; exact Nat.max_le.mpr ⟨a.dp, b.dp⟩, ?_⟩
    simp only [PyData.shownAll, List.map_cons, List.sum_cons, List.length_cons, Nat.mul_succ]
    have := a.sz
    have := b.sz
    omega
theorem shAll_len : ∀ ds : List PyData, (PyData.shownAll ds).length = ds.length
  | [] => rfl
  | d :: ds => by simp only [PyData.shownAll, List.length_cons, shAll_len ds]
theorem sd_lst {m n : Nat} {ds : List PyData} (h : ∀ d ∈ ds, Sd m n d) : Sd (m + 1) ((n + 2) * ds.length + 10) (.list ds) := by
  have a := sdAll h
  refine ⟨by simp only [PyData.showable]; exact a.sh, by simp only [PyData.depth]; have := a.dp; omega, ?_⟩
  simp only [PyData.shown]
  have b := listText_len_le (PyData.shownAll ds)
  have c := a.sz
  rw [shAll_len] at b
  rw [Nat.add_mul]
  omega
theorem sd_tup {m n : Nat} {ds : List PyData} (h : ∀ d ∈ ds, Sd m n d) : Sd (m + 1) ((n + 2) * ds.length + 10) (.tuple ds) := by
  have a := sdAll h
  refine ⟨by simp only [PyData.showable]; exact a.sh, by simp only [PyData.depth]; have := a.dp; omega, ?_⟩
  simp only [PyData.shown]
  have b := tupleText_len_le (PyData.shownAll ds)
  have c := a.sz
  rw [shAll_len] at b
  rw [Nat.add_mul]
  omega
end Ri

/-! t[::-1] and t[:0:-1] of tuples -/
namespace Rz
open PySem PySem.Spec PyProof.Rows
section
variable {prog : Program} {w : World} {A : Around} {E : Value → Shared → Prop} {s : Shared}
/-- how many items t[:hi:-1] leaves out at the begin -/
def offs : Option Int → Nat
  | none => 0
  | some _ => 1
theorem adjust_rev {hi : Option Int} (h : hi = none ∨ hi = some 0) (n : Nat) : Builtin.Slice.sliceAdjust none hi (-1) (n : Int) = ((n : Int) - 1, if hi = none then -1 else min 0 ((n : Int) - 1)) := by
  have h1 : ((-1 : Int) < 0) := by omega
  unfold Builtin.Slice.sliceAdjust
  simp only [h1, if_true]
  rcases h with rfl | rfl <;> rfl
theorem places_rev {hi : Option Int} (h : hi = none ∨ hi = some 0) (n : Nat) : Builtin.Slice.slicePlaces ((n : Int) - 1) (if hi = none then -1 else min 0 ((n : Int) - 1)) (-1) = n - offs hi := by
  unfold Builtin.Slice.slicePlaces
  have h1 : ¬ ((-1 : Int) > 0) := by omega
  simp only [h1, if_false]
  rcases h with rfl | rfl
  · rw [if_pos rfl]
    show (if (n : Int) - 1 > -1 then ((n : Int) - 1 - -1 - 1) / 1 + 1 else 0).toNat = n - 0
    rw [Int.ediv_one]
    split <;> omega
  · have e : (if (some (0 : Int)) = none then (-1 : Int) else min 0 ((n : Int) - 1)) = min 0 ((n : Int) - 1) := if_neg (by simp)
    rw [e]
    show (if (n : Int) - 1 > min 0 ((n : Int) - 1) then ((n : Int) - 1 - min 0 ((n : Int) - 1) - 1) / 1 + 1 else 0).toNat = n - 1
    rw [Int.ediv_one]
    split <;> omega
theorem fm_congr {α β : Type} {f g : α → Option β} : ∀ {l : List α}, (∀ x ∈ l, f x = g x) → l.filterMap f = l.filterMap g
  | [], _ => rfl
  | x :: l, h => by
    rw [List.filterMap_cons, List.filterMap_cons, h x (List.mem_cons_self ..), fm_congr fun y m => h y (List.mem_cons_of_mem _ m)]
theorem sliceApplied_rev {sl : Addr} {vl vu vs : Value} {hi : Option Int} {n : Nat} {Q : Int × Int × Nat → Shared → Prop} (h0 : hi = none ∨ hi = some 0) (hs : s.heap.IsSliceOf sl vl vu vs) (pl : IsPart vl none) (pu : IsPart vu hi) (ps : IsPart vs (some (-1)))
    (h : Q ((n : Int) - 1, -1, n - offs hi) s) : wpAny (model prog w) A (Builtin.Slice.sliceApplied (.ref sl) (pure (n : Int))) Q E s := by
  obtain ⟨os, hos, hcs, hds⟩ := id hs
  unfold Builtin.Slice.sliceApplied Builtin.Slice.sliceFields
  refine wpAny_bind (wpAny_bind (wpAny_field hos hds (x := vl) rfl (wpAny_bind (wpAny_field hos hds (x := vu) rfl (wpAny_bind (wpAny_field hos hds (x := vs) rfl (wpAny_pure ?_)))))))
  refine wpAny_bind (HT.slicePart_ ps ?_)
  show wpAny _ _ (if ((-1 : Int) == 0) = true then _ else _) _ _ s
  rw [if_neg (by decide)]
  refine wpAny_bind (HT.slicePart_ pl (wpAny_bind (HT.slicePart_ pu (wpAny_bind (wpAny_pure ?_)))))
  show wpAny _ _ (match Builtin.Slice.sliceAdjust none hi (-1) (n : Int) with | (lo, hi) => pure (lo, (-1 : Int), Builtin.Slice.slicePlaces lo hi (-1))) _ _ s
  rw [adjust_rev h0 n]
  show wpAny _ _ (pure ((n : Int) - 1, (-1 : Int), Builtin.Slice.slicePlaces ((n : Int) - 1) (if hi = none then -1 else min 0 ((n : Int) - 1)) (-1))) _ _ s
  rw [places_rev h0]
  exact wpAny_pure h
theorem pick_rev (xs : Array Value) (d : Nat) : ((List.range (xs.size - d)).filterMap fun (m : Nat) => xs[(((xs.size : Nat) : Int) - 1 + (m : Int) * (-1)).toNat]?).toArray = (xs.toList.drop d).reverse.toArray := by
  congr 1
  have e1 : (List.range (xs.size - d)).filterMap (fun (m : Nat) => xs[(((xs.size : Nat) : Int) - 1 + (m : Int) * (-1)).toNat]?) = (List.range (xs.size - d)).filterMap fun m => (xs.toList.drop d).reverse[m]? := by
    refine fm_congr fun m hm => ?_
    have hm := List.mem_range.mp hm
    have hx : (((xs.size : Nat) : Int) - 1 + (m : Int) * (-1)).toNat = xs.size - 1 - m := by omega
    rw [hx, List.getElem?_reverse (by rw [List.length_drop, Array.length_toList]; omega), List.getElem?_drop, List.length_drop, Array.length_toList, Array.getElem?_toList]
    congr 1
    omega
  rw [e1]
  have l : (xs.toList.drop d).reverse.length = xs.size - d := by rw [List.length_reverse, List.length_drop, Array.length_toList]
  rw [← l]
  generalize (xs.toList.drop d).reverse = ys
  have key : ∀ (ys : List Value) (k : Nat), k ≤ ys.length → (List.range k).filterMap (fun m => ys[m]?) = ys.take k := by
    intro ys k
    induction k with
    | zero => intro _; rfl
    | succ k ih =>
      intro hk
      rw [List.range_succ, List.filterMap_append, ih (by omega), List.take_succ]
      congr 1
  rw [key ys ys.length (Nat.le_refl _), List.take_length]
theorem getItem_tuple_rev {t sl : Addr} {items : Array Value} {vl vu vs : Value} {hi : Option Int} {Q : Value → Shared → Prop} (h0 : hi = none ∨ hi = some 0) (ht : IsTup s.heap t items) (hs : s.heap.IsSliceOf sl vl vu vs) (pl : IsPart vl none) (pu : IsPart vu hi) (ps : IsPart vs (some (-1)))
    (h : Q (.ref s.heap.objs.size) { s with heap := s.heap.push { cls := .type "tuple", data := .seq (items.toList.drop (offs hi)).reverse.toArray } })
    (hsz : items.size ≤ sizeLine) : wpAny (model prog w) A (getItem (.ref t) (.ref sl)) Q E s := by
  have htake : sizeOk (.seq (items.toList.drop (offs hi)).reverse.toArray) := by
    show (items.toList.drop (offs hi)).reverse.toArray.size ≤ sizeLine
    rw [List.size_toArray, List.length_reverse, List.length_drop, Array.length_toList]
    omega
  obtain ⟨os, hos, hcs, hds⟩ := id hs
  have hTs : s.TypeIs (.ref sl) "slice" := ⟨os, hos, hcs⟩
  unfold getItem
  try with_reducible refine wpAny_holding ?_
  first | refine wpAny_bind (wpAny_pure ?_) | skip
  refine wpAny_bind (wpAny_sequenceKey ht.typeIs (by decide) ?_)
  refine wpAny_bind (wpAny_callSpecial?_slot (name := Str.ofString "__getitem__") ht.typeIs PyProof.Rows.slot_tuple_getitem
    (wpAny_call_entry PyProof.Rows.slot_tuple_getitem ht.typeIs entry_tuple_getitem ?_ (args_tuple_getitem _ _)))
  show wpAny _ _ (Builtin.Tuple.tupleItemsOf (.ref t) >>= _) _ _ s
  refine wpAny_bind (tupleItemsOf_ ht ?_)
  refine wpAny_bind (wpAny_typeOf hTs ?_)
  rw [if_pos (by decide)]
  refine wpAny_bind (sliceApplied_rev h0 hs pl pu ps ?_)
  have hno : ¬ ((((items.size : Nat) : Int) - 1 == 0 && (-1 : Int) == 1 && (items.size - offs hi) == items.size) = true) := by
    intro q
    rw [Bool.and_eq_true, Bool.and_eq_true] at q
    have : (-1 : Int) = 1 := eq_of_beq q.1.2
    exact absurd this (by decide)
  show wpAny _ _ (if (((items.size : Nat) : Int) - 1 == 0 && (-1 : Int) == 1 && (items.size - offs hi) == items.size) = true then _ else _) _ _ s
  rw [if_neg hno, pick_rev]
  first
    | exact wpAny_bind (m := Builtin.Tuple.tupleExact _) (wpAny_newObj_type (wpAny_pure ⟨_, rfl, wpAny_pure h⟩) htake)
    | exact wpAny_bind (m := Builtin.Tuple.tupleExact _) (wpAny_newObj_type (wpAny_bind (wpAny_pure (wpAny_pure ⟨_, rfl, wpAny_pure h⟩))) htake)
    | exact wpAny_bind (wpAny_bind (m := Builtin.Tuple.tupleExact _) (wpAny_newObj_type (wpAny_pure (wpAny_pure ⟨_, rfl, wpAny_pure h⟩)) htake))
    | exact wpAny_bind (wpAny_bind (m := Builtin.Tuple.tupleExact _) (wpAny_newObj_type (wpAny_pure ⟨_, rfl, wpAny_pure h⟩) htake))
end
end Rz
namespace Rz
open PySem PySem.Spec PyProof.Rows L2
section
variable {X : Cx}
def tRevT (K : PySem.W.Frag) (te : TE) (th : TO) : TE := fun σ H Q => te σ H fun x H1 => th σ H1 fun o H2 => ∃ a xs, x = .ref a ∧ SqT K H2 a xs ∧ (o = none ∨ o = some 0) ∧ ∀ p, H2 p = none → Q (.ref p) (upd H2 p (.tup (xs.drop (offs o)).reverse))
theorem pe_revT {e : Expr} {hi : Option Expr} {te : TE} {th : TO} {k : Nat} {p1 p2 p3 pos : Pos} (he : PE X e te) (hu : PO X hi th) : PE X (.Subscript e (.Slice none hi (some (.UnaryOp .USub (.Constant (.int 1) k p1) p2)) p3) pos) (tRevT X.K te th) := by
  refine ⟨fun pins s σ H Q I h => ?_⟩
  refine Subscript_ (thn (he.run pins s σ H _ I h) fun v s1 ⟨x, H1, I1, r1, q1⟩ => ?_)
  have hst : PO X (some (.UnaryOp .USub (.Constant (.int 1) k p1) p2)) (tPart (tUn (rU fun i => .int (-i)) (tC (.int 1)))) := po_some (pe_un un_neg pe_int)
  refine wpAny_Slice (thn (po_none.run pins s1 σ H1 (fun o H2 => o = none ∧ H2 = H1) I1 ⟨rfl, rfl⟩) fun vl s2 ⟨l, H2, I2, pl, el, e2⟩ => ?_)
  subst el e2
  refine thn (hu.run pins s2 σ H2 _ I2 q1) fun vu s3 ⟨u, H3, I3, pu, q⟩ => ?_
  obtain ⟨a, xs, ex, hx, h0, q⟩ := q
  subst ex
  cases r1
  refine thn (hst.run pins s3 σ H3 (fun o H4 => o = some (-1) ∧ H4 = H3) I3 ⟨1, rfl, -1, rfl, rfl, rfl⟩) fun vs s4 ⟨o, H4, I4, ps, eo, e4⟩ => ?_
  subst eo e4
  have I5 : Inv X pins σ H4 { s4 with heap := s4.heap.push { cls := .type "slice", data := .fields #[vl, vu, vs] } } := I4.kept (t' := s4.toks) fun b ob q => Heap.get?_push_of_some _ q
  obtain ⟨its, r, ht, hz⟩ := I5.tuple hx
  have hlen := r.length
  show wpAny (model X.prog X.w) X.A (subscriptTail e (.Slice none hi (some (.UnaryOp .USub (.Constant (.int 1) k p1) p2)) p3) (.ref a) (.ref s4.heap.objs.size)) (EP X pins σ Q) X.xe { s4 with heap := s4.heap.push { cls := .type "slice", data := .fields #[vl, vu, vs] } }
  refine tail_any (ops := [.ref a, .ref s4.heap.objs.size]) ht.typeIs (PyProof.Rows.slot_tuple_getitem.lookup) ?_ (by with_unfolding_all rfl)
  refine getItem_tuple_rev h0 ht (Heap.IsSliceOf.new _ vl vu vs) pl pu ps ?_ (by rw [List.size_toArray]; omega)
  refine ⟨.ref _, _, I5.laid (t' := s4.toks) (o := .tup (xs.drop (offs u)).reverse) (fun b ob q => Heap.get?_push_of_some _ q) (Nat.le_refl _) ?_, rfl, q _ (I5.hok.fresh (Nat.le_refl _))⟩
  exact ⟨by rw [List.length_reverse, List.length_drop]; omega, _, (r.drop (offs u)).reverse, IsTup.new _ _⟩
end
end Rz
namespace Rz
open PySem PySem.Spec PyProof.Rows L2
theorem slA {K : PySem.W.Frag} {H : Hp} {a : Addr} {xs : List V} {lo hi : Option Int} {Q : VK} (h : SqT K H a xs) (k : ∀ (p : Addr) (G : Hp), Same H G → SqT K G p (cutV xs lo hi) → Q (.ref p) G) : rSlA K (.ref a) lo hi H Q :=
  ⟨a, xs, rfl, h, fun w => k a H (Same.refl _) (by
    have : cutV xs lo hi = xs := by
      unfold cutV
      rw [w.1, w.2, List.drop_zero, Nat.sub_zero, List.take_length]
    rw [this]
    exact h), fun _ p n => k p _ (Rd.same_upd n) (.of upd_same)⟩
theorem revT {K : PySem.W.Frag} {te : TE} {th : TO} {σ : L2.St} {H : Hp} {Q : VK} (h : te σ H fun x H1 => th σ H1 fun o H2 => ∃ a xs, x = .ref a ∧ SqT K H2 a xs ∧ (o = none ∨ o = some 0) ∧ Rd.NewQ (.tup (xs.drop (offs o)).reverse) Q H2) : tRevT K te th σ H Q := h
end Rz
namespace Rz
open PySem PySem.Spec PyProof.Rows L2
theorem slH {K : PySem.W.Frag} {H : Hp} {a : Addr} {xs : List V} {lo hi : Option Int} {Q : VK} (h : H a = some (.tup xs)) (k : ∀ (p : Addr) (G : Hp), Same H G → G p = some (.tup (cutV xs lo hi)) → Q (.ref p) G) : rSlA K (.ref a) lo hi H Q :=
  ⟨a, xs, rfl, .of h, fun w => k a H (Same.refl _) (by
    have : cutV xs lo hi = xs := by
      unfold cutV
      rw [w.1, w.2, List.drop_zero, Nat.sub_zero, List.take_length]
    rw [this]
    exact h), fun _ p n => k p _ (Rd.same_upd n) upd_same⟩
theorem catH {K : PySem.W.Frag} {H : Hp} {a b : Addr} {xs ys : List V} {Q : VK} (h1 : H a = some (.tup xs)) (h2 : H b = some (.tup ys)) (hz : xs.length + ys.length ≤ sizeLine) (k : ∀ (r : Addr) (G : Hp), Same H G → G r = some (.tup (xs ++ ys)) → Q (.ref r) G) : rCatA K (.ref a) (.ref b) H Q :=
  ⟨a, b, xs, ys, rfl, rfl, .of h1, .of h2, hz, fun e => k b H (Same.refl _) (by rw [e]; exact h2), fun _ e => k a H (Same.refl _) (by rw [e, List.append_nil]; exact h1), fun _ _ p n => k p _ (Rd.same_upd n) upd_same⟩
end Rz
namespace Rz
open PySem PySem.Spec PyProof.Rows L2
theorem rng2 {ta : TA} {σ : L2.St} {H : Hp} {R : It → Hp → Prop} (h : ta σ H fun vs H1 => ∃ i j : Int, vs = [.int i, .int j] ∧ (-(2 ^ 62) ≤ i ∧ i < 2 ^ 62 ∧ -(2 ^ 62) ≤ j ∧ j < 2 ^ 62) ∧ R (Itr i (j - i).toNat) H1) : iRng2 ta σ H R := h
end Rz

/-! Closures: a lambda with parameters that is handed to a def, and called there by the parameter's name. -/
namespace Rk
open PySem PySem.Spec PyProof.Rows L2 LamX NdefX
/-- what is known of the function at f, seen from a state s0: from any later state in which the frames fr and what was not tracked are kept, its call keeps the promise sp -/
structure Clo (P : Program) (w : World) (K : PySem.W.Frag) (mg : Str → Option Value) (base : Heap) (k : Nat) (fr : List Addr) (f : Addr) (s0 : Shared) (H0 : Hp) (sp : Sp) : Prop where
  ob : ∃ oc od fd sl, s0.heap.get? f = some (⟨oc, od, .func fd, sl⟩ : Obj)
  nt : H0 f = none
  nf : f ∉ fr
  run : ∀ (A : Around) (st : List Env) (s : Shared) (H : Hp) (us : List Value) (vs : List V) (Q : VK) (E : XK), Room k A → Env0 P w K mg base A st s H → Un fr [] H0 H s0.heap s.heap → Vals vs us → sp vs H Q E →
    codeAny (model P w) A (.call (.ref f) ⟨us, []⟩) (CR (L2.CX P w) st P w H s Q E) s
/-- the names of a lambda: its parameters, what it captures, globals -/
structure LamP (sc scope : Scope) (ps : List Str) : Prop where
  kind : scope.kind = .function
  co : scope.isCoroutine = false
  gen : scope.isGenerator = false
  nocell : ∀ y ∈ scope.names, y.2 ≠ .cell
  par : ∀ p ∈ ps, scope.names.lookup p = some .local
  loc : ∀ y ∈ scope.names, y.2 = .local → y.1 ∈ ps
  free : ∀ y ∈ scope.names, y.2 = .free → sc.names.lookup y.1 = some .cell ∨ sc.names.lookup y.1 = some .free
def lamPB (sc scope : Scope) (ps : List Str) : Bool :=
  decide (scope.kind = .function) && (!scope.isCoroutine && (!scope.isGenerator && ((scope.names.all fun y => !decide (y.2 = .cell)) && ((ps.all fun p => decide (scope.names.lookup p = some .local)) && ((scope.names.all fun y => !decide (y.2 = .local) || decide (y.1 ∈ ps)) &&
    scope.names.all fun y => !decide (y.2 = .free) || (decide (sc.names.lookup y.1 = some .cell) || decide (sc.names.lookup y.1 = some .free)))))))
theorem lamP_by {sc scope : Scope} {ps : List Str} (h : lamPB sc scope ps = true) : LamP sc scope ps := by
  unfold lamPB at h
  simp only [Bool.and_eq_true, Bool.or_eq_true, Bool.not_eq_true', decide_eq_true_eq, decide_eq_false_iff_not, List.all_eq_true] at h
  obtain ⟨h1, h2, h3, h4, h5, h6, h7⟩ := h
  exact ⟨h1, h2, h3, h4, h5, fun y m e => (h6 y m).resolve_left fun n => n e, fun y m e => (h7 y m).resolve_left fun n => n e⟩
section
variable {X : Cx} {pins : List (Addr × Obj)} {σ : L2.St} {H HZ : Hp} {s s1 : Shared} {ps : List Str}
theorem LamP.has {scope : Scope} (L : LamP X.env.scope scope ps) (ok : X.Ok) : ∀ y ∈ scope.names, y.2 = .free → ∃ c, X.env.cells.lookup y.1 = some c :=
  fun y m e => (L.free y m e).elim (fun k => ok.has _ (.inl k)) fun k => ok.has _ (.inr k)
/-- the slots in a lambda: the parameters' hold what was handed in, the others are the maker's -/
structure Slots (X : Cx) (ps : List Str) (us : List Value) (σ σ' : L2.St) : Prop where
  len : σ'.length = σ.length
  par : ∀ (i : Nat) (y : Str) (v : V), X.N[i]? = some y → σ'[i]? = some (some v) → y ∈ ps → ∃ u, RelV v u ∧ (ps.zip us).reverse.lookup y = some u
  old : ∀ (i : Nat) (y : Str) (v : V), X.N[i]? = some y → σ'[i]? = some (some v) → y ∉ ps → σ[i]? = some (some v)
theorem slots1 {p : Str} {j : Nat} {v : V} {u : Value} (nd : X.N.Nodup) (hj : X.N[j]? = some p) (r : RelV v u) : Slots X [p] [u] σ (σ.set j (some v)) := by
  have same : ∀ {i : Nat}, X.N[i]? = some p → j = i := fun {i} hi => by
    rcases Nat.lt_trichotomy j i with q | q | q
    · exact absurd (List.mem_of_getElem? (show (X.N.take i)[j]? = some p by rw [List.getElem?_take, if_pos q]; exact hj)) (Rd.nodup_take nd hi)
    · exact q
    · exact absurd (List.mem_of_getElem? (show (X.N.take j)[i]? = some p by rw [List.getElem?_take, if_pos q]; exact hi)) (Rd.nodup_take nd hj)
  refine ⟨List.length_set, fun i y w hi hw hy => ?_, fun i y w hi hw hy => ?_⟩
  · have hy : y = p := by simpa using hy
    subst hy
    cases same hi
    have l : j < σ.length := by
      rcases Nat.lt_or_ge j σ.length with l | l
      · exact l
      · rw [List.getElem?_eq_none (by rw [List.length_set]; exact l)] at hw
        cases hw
    rw [List.getElem?_set_self l] at hw
    cases hw
    exact ⟨u, r, by simp [List.lookup]⟩
  · have ne : j ≠ i := fun e => by
      subst e
      rw [hj] at hi
      cases hi
      exact hy (List.mem_singleton.mpr rfl)
    rw [List.getElem?_set_ne ne] at hw
    exact hw
def put1 (j : Nat) : L2.St → List V → L2.St := fun σ vs => match vs with
  | [v] => σ.set j (some v)
  | _ => σ
theorem hput1 {p : Str} {j : Nat} (nd : X.N.Nodup) (hj : X.N[j]? = some p) : ∀ (σ : L2.St) (vs : List V) (us : List Value), Vals vs us → us.length = [p].length → Slots X [p] us σ (put1 j σ vs) := fun σ vs us r l => by
  match us, l, vs, r with
  | [u], _, [v], .cons r .nil => exact slots1 nd hj r
/-- the lambda's body begins -/
theorem lam_begin {A : Around} {outer : List Env} {E : XK} {scope : Scope} {f c' : Addr} {h₁ : Heap} {tk : Nat} {us : List Value} {σ' : L2.St} (I : Inv X pins σ H s) (L : LamP X.env.scope scope ps) (S : Slots X ps us σ σ') (e0 : Env0 X.prog X.w X.K X.mg X.base A outer s1 HZ) (hd : A.handled = none)
    (un : Un (frs X.stack) [] H HZ s.heap s1.heap) (hns : h₁.Ns s1.heap.objs.size fun y => (ps.zip us).reverse.lookup y) (kp : ∀ b o, s1.heap.get? b = some o → h₁.get? b = some o) :
    Inv (lamCx X A outer s1 HZ E scope f c') [] σ' HZ { s1 with heap := h₁, toks := tk } := by
  have hfree := L.has I.ok
  have cm : ∀ {y c}, (cloFrom X.env.cells scope.names []).lookup y = some c → X.env.cells.lookup y = some c := fun e => clo_cm hfree e
  have look : ∀ {y}, scope.names.lookup y = some .free → ∃ c, (cloFrom X.env.cells scope.names []).lookup y = some c := fun {y} hl => by
    obtain ⟨c, hc⟩ := hfree _ (PySem.mem_of_lookup hl) rfl
    exact ⟨c, clo_has hfree (PySem.mem_of_lookup hl) hc⟩
  have cellK : ∀ {c : Addr} {v : Option Value}, H c = none → s.heap.IsCell c v → h₁.IsCell c v := fun {c v} n z => by
    obtain ⟨o, ho, hd⟩ := z
    obtain ⟨sl, q⟩ := un.any ho n List.not_mem_nil
    exact ⟨_, kp _ _ q, hd⟩
  have no : ∀ b : Addr, b ∉ (lamCx X A outer s1 HZ E scope f c').ex := fun b => List.not_mem_nil
  have nc : ∀ {y}, scope.names.lookup y = some .cell → False := fun hl => L.nocell _ (PySem.mem_of_lookup hl) rfl
  have okX : (lamCx X A outer s1 HZ E scope f c').Ok :=
    { mod := e0.mod, kind := L.kind, glob := rfl, blt := rfl, above := Nat.le_refl _,
      inj := fun y z c e1 e2 => I.ok.inj y z c (cm e1) (cm e2)
      has := fun y hy => hy.elim (fun h => (nc h).elim) look
      cab := fun y c z _ => by cases (show false = true from z)
      hd := fun _ => hd, frames := Around.frames_deeper e0.frames, stk := .inr ⟨rfl, rfl⟩, exf := fun b z => absurd z (no b), bs := e0.bs, bsz := e0.bsz, noex := fun b _ _ => no b, exfs := fun b z => absurd z (no b), funs := e0.funs, frf := e0.frf }
  refine { ok := okX, os := rfl, bare := e0.bare, base := Un.kept kp, loc := ⟨_, hns, fun i y v e1 e2 e3 => ?_⟩, cell := fun y c e => ?_, free := e0.hok.fresh (Nat.le_refl _), freeC := fun y c e => ?_, pin := fun q hq => absurd (show q ∈ ([] : List (Addr × Obj)) ++ [] from hq) (by simp), hok := e0.hok.kept kp, len := S.len.trans I.len }
  · have e3 : Vis scope y := e3
    rcases e3 with k | k | k
    · obtain ⟨u, r, q⟩ := S.par i y v e1 e2 (L.loc _ (PySem.mem_of_lookup k) rfl)
      exact ⟨u, r, .inl ⟨k, q⟩⟩
    · exact (nc k).elim
    · have ny : y ∉ ps := fun m => by
        have := L.par y m
        rw [k] at this
        cases this
      obtain ⟨m, hn, hl⟩ := I.loc
      have kx := L.free _ (PySem.mem_of_lookup k) rfl
      obtain ⟨u, r, q⟩ := hl i y v e1 (S.old i y v e1 e2 ny) (kx.elim (fun z => .inr (.inl z)) fun z => .inr (.inr z))
      obtain ⟨c2, h2⟩ := look k
      refine ⟨u, r, .inr ⟨.inr k, c2, h2, ?_⟩⟩
      rcases q with ⟨z, _⟩ | ⟨_, c3, e', z⟩
      · have z : X.env.scope.names.lookup y = some .local := z
        rcases kx with k2 | k2 <;> rw [show X.env.scope.names.lookup y = _ from k2] at z <;> cases z
      · rw [cm h2] at e'
        cases e'
        exact cellK (I.freeC y _ (cm h2)) z
  · obtain ⟨v, z⟩ := I.cell y c (cm e)
    exact ⟨v, cellK (I.freeC y c (cm e)) z⟩
  · obtain ⟨v, o, ho, _⟩ := I.cell y c (cm e)
    exact un.free c o ho (I.freeC y c (cm e)) List.not_mem_nil
/-- a lambda just made is a closure -/
theorem clo_of {f c' : Addr} {pm ctv : Value} {params : Arguments} {body : Expr} {scope : Scope} {k : Nat} {tb : TE} {put : List V → L2.St} (I : Inv X pins σ H s) (L : LamP X.env.scope scope ps)
    (hf : s.heap.get? f = some (PySem.W.kla_obj "<lambda>" (X.env.qual ++ "<lambda>") params body scope (cloFrom X.env.cells scope.names []) pm c' ctv)) (hfn : H f = none) (hfr : f ∉ frs X.stack)
    (hbind : ∀ us : List Value, us.length = ps.length → bindArgs (PySem.W.kla_fn "<lambda>" (X.env.qual ++ "<lambda>") params body scope (cloFrom X.env.cells scope.names []) pm (.ref c') ctv) ⟨us, []⟩ = pure (ps.zip us))
    (hput : ∀ vs us, Vals vs us → us.length = ps.length → Slots X ps us σ (put vs))
    (hbody : ∀ (A : Around) (outer : List Env) (s : Shared) (H : Hp) (E : XK), Room k (A.deeper (lamEnv X scope s.heap.objs.size f c')) → PE (lamCx X A outer s H E scope f c') body tb) :
    Clo X.prog X.w X.K X.mg X.base (k + 1) (frs X.stack) f s H (fun vs HZ Q E => vs.length = ps.length ∧ HZ c' = some (CodeO c' (X.env.qual ++ "<lambda>")) ∧ tb (put vs) HZ Q) := by
  refine ⟨⟨_, _, _, _, hf⟩, hfn, hfr, ?_⟩
  rintro A st s1 HZ us vs Q E hr e0 un r ⟨lv, hc, ht⟩
  have lu : us.length = ps.length := r.length.symm.trans lv
  have of1 := un.keep f _ hf hfn hfr List.not_mem_nil
  obtain ⟨⟨oc, zs, t, hoc, hdc, hvc⟩, _, _⟩ := e0.hok c' _ hc
  refine PySem.W.kla_callFunE hr.depth of1 rfl L.co L.gen rfl ⟨c', oc, zs, t, rfl, hoc, hdc, hvc⟩ ?_
  rw [hbind us lu]
  refine wpAny_pure (wpAny_newFunctionEnv (fun y hy => L.nocell y hy) (fun y hy => L.par _ (List.of_mem_zip hy).1) (fun h₁ hns hsb => ⟨(e0.mod.nolimit.keeps fun b o e => (e0.bs b o e).1).fresh _ hsb, ?_⟩) L.kind)
  show codeAny _ _ (.expr body (lamEnv X scope s1.heap.objs.size f c')) _ _
  have kp : ∀ b o, s1.heap.get? b = some o → h₁.get? b = some o := fun b o e => hsb.extBut b o (Nat.ne_of_lt (Heap.lt_size e)) (Heap.get?_push_of_some _ e)
  have J : Inv (lamCx X A st s1 HZ E scope f c') [] (put vs) HZ { s1 with heap := h₁, toks := s1.toks + (ps.zip us).length } := lam_begin I L (hput vs us r lu) e0 hr.hd un hns kp
  refine PySem.W.kla_codeExpr (wpAny_mono ((hbody A st s1 HZ E (hr.deeper _)).run [] _ _ HZ Q J ht) (fun v s' hq => ?_) fun e s' hq => hq)
  obtain ⟨v', H', J', rv, q⟩ := hq
  exact ⟨v', H', J'.os, J'.bare, J'.base, J'.hok, rv, q⟩
end
/-! ### the def that is handed a closure -/
structure FnC (P : Program) (w : World) (K : PySem.W.Frag) (mg : Str → Option Value) (base : Heap) (k : Nat) (f : Addr) (fd : FuncData) (ps : List Str) (kc : Nat) (sp : (Addr → Sp → Prop) → Sp) : Prop where
  len : ∀ C vs H Q E, sp C vs H Q E → vs.length = ps.length
  run : ∀ (A : Around) (st : List Env) (s : Shared) (H : Hp) (ag : Args) (us : List Value) (vs : List V) (Q : VK) (E : XK), Room k A → Env0 P w K mg base A st s H → BindsTo s fd ag (ps.zip us) → Vals vs us →
    sp (fun fa spf => Clo P w K mg base kc (frs st) fa s H spf) vs H Q E → codeAny (model P w) A (.call (.ref f) ag) (CR CX0 st P w H s Q E) s
section
variable {P : Program} {w : World} {K : PySem.W.Frag} {mg : Str → Option Value} {base : Heap}
/-- such a def by its body -/
theorem okC {x qual : Str} {st : Stmt} {f : Addr} {fd : FuncData} {N ps : List Str} {k kc : Nat} {sp : (Addr → Sp → Prop) → Sp} (F : Fun K x qual st f fd) (S : FnScope N ps (defScope st)) (len : ∀ C vs H Q E, sp C vs H Q E → vs.length = ps.length)
    (hb : ∀ (cdv : Value) (A : Around) (out : List Env) (s : Shared) (H : Hp) (vs : List V) (Q : VK) (E : XK), Room k (A.deeper (envOfC qual (defScope st) s.heap.objs.size f cdv)) → sp (fun fa spf => Clo P w K mg base kc (frs out) fa s H spf) vs H Q E →
      ∃ t, PSs (cxOf CX0 P w K mg base N qual (defScope st) f cdv A out s H E).nox (defBody st) t ∧ t { nx := fun _ H' => Q .non H', rt := Q } (start N vs) H) : FnC P w K mg base (k + 1) f fd ps kc sp := by
  obtain ⟨_, _, _, _, _, _, cdv, _, _, rfl, lk, hcd⟩ := F.ex
  refine ⟨len, fun A out s H ag us vs Q E hr e0 hbd r h => ?_⟩
  exact run_ofS lk hcd S hr e0 hbd r (len _ _ _ _ _ h) fun hr' => let ⟨t, p, q⟩ := hb cdv A out s H vs Q E hr' h; ⟨t, p.nox, q⟩
end
/-- x(e, ..), x a parameter that holds a closure -/
def tClo (C : Addr → Sp → Prop) (i : Nat) (E : XK) (t : TA) : TE := fun σ H Q => ∃ f spf, σ[i]? = some (some (.ref f)) ∧ C f spf ∧ t σ H fun vs H1 => spf vs H1 Q E
section
variable {X : Cx} {k kc i : Nat} {x : Str} {E : XK} {t : TA} {e : Expr} {es : List Expr} {p pos : Pos}
theorem pe_clo (hr : Room k X.A) (hk : kc ≤ k) (hex : X.ex = []) (hx : Passes (L2.CX X.prog X.w) X E) (hN : X.N[i]? = some x) (hv : Vis X.env.scope x) (ha : PA X (e :: es) t)
    (hd : (x == ("__debug__" : Str)) = false := by decide) (hcd : (x == ("__classdict__" : Str)) = false := by decide)
    (he : starEach (e :: es) X.env = (false, eval e X.env) :: starEach es X.env := by rfl) (hpl : (backTo pos (starEach es X.env)).any (·.1) = false := by rfl) :
    PE X (.Call (.Name x p) (e :: es) [] pos) (tClo (fun f spf => Clo X.prog X.w X.K X.mg X.base kc X.fs f X.s_0 X.H_0 spf) i E t) := by
  refine ⟨fun pins s σ H Q I h => ?_⟩
  obtain ⟨f, spf, hs, C, ht⟩ := h
  have at_ : ∀ {s H σ}, Inv X pins σ H s → PySem.W.FnAt f s.heap := fun J => by
    obtain ⟨oc, od, fd, sl, ho⟩ := C.ob
    exact ⟨_, _, _, _, J.base.keep f _ ho C.nt C.nf (by rw [hex]; exact List.not_mem_nil)⟩
  refine wpAny_Call_Name_kw (thn ((pe_var (pos := p) hN hv hd hcd).run pins s σ H (fun v H1 => v = .ref f ∧ H1 = H) I ⟨.ref f, hs, rfl, rfl⟩) fun u s1 ⟨v, H1, I1, r1, q1⟩ => ?_)
  obtain ⟨ev, eH⟩ := q1
  subst ev
  rw [eH] at I1
  obtain rfl : u = Value.ref f := r1
  refine PySem.W.callWith_F (first := []) (at_ I1) (thn (ha.run pos pins s1 σ H _ I1 ht) fun us s2 ⟨vs, H2, I2, r, q⟩ => ⟨at_ I2, ?_⟩) he hpl
  have un : Un X.fs [] X.H_0 H2 X.s_0.heap s2.heap := hex ▸ I2.base
  refine wpAny_call (codeAny_mono (C.run X.A X.stack s2 H2 us vs Q E (hr.mono hk) I2.env0 un r q) fun r s' z => ?_)
  match r, z with
  | .error v, z => exact hx pins σ H2 s2 v s' I2 z
  | .ok (.ret u), z => exact I2.after z
  | .ok .next, z => exact z.elim
  | .ok .brk, z => exact z.elim
  | .ok .cont, z => exact z.elim
end
/-! ### the def that makes the lambda -/
/-- the reading of arguments of which the last is a lambda -/
abbrev TL := L2.St → Hp → ((Addr → Sp → Prop) → List V → Hp → Prop) → Prop
structure PL (X : Cx) (kc : Nat) (es : List Expr) (t : TL) : Prop where
  run : ∀ (pos : Pos) (pins : List (Addr × Obj)) (s : Shared) (σ : L2.St) (H : Hp) (R : (Addr → Sp → Prop) → List V → Hp → Prop), Inv X pins σ H s → t σ H R →
    wpAny (model X.prog X.w) X.A (spliced (backTo pos (starEach es X.env))) (fun us s1 => ∃ vs H1, Inv X pins σ H1 s1 ∧ Vals vs us ∧ R (fun f sp => Clo X.prog X.w X.K X.mg X.base kc (frs X.stack) f s1 H1 sp) vs H1) X.xe s
def tlCons (te : TE) (t : TL) : TL := fun σ H R => te σ H fun v H1 => t σ H1 fun C vs H2 => R C (v :: vs) H2
def tlLam (T : List (Addr × Str)) (q : Str) (n : Nat) (tb : TE) (put : L2.St → List V → L2.St) : TL := fun σ H R => Tabs T H ∧ ∀ (f c' : Addr) (H2 : Hp) (C : Addr → Sp → Prop), ExtN H H2 → Tabs T H2 → H2 c' = some (CodeO c' q) →
  C f (fun vs HZ Q _ => vs.length = n ∧ HZ c' = some (CodeO c' q) ∧ tb (put σ vs) HZ Q) → R C [.ref f] H2
/-- x(e, .., lambda p: body) -/
def tCallL (sp : (Addr → Sp → Prop) → Sp) (E : XK) (t : TL) : TE := fun σ H Q => t σ H fun C vs H1 => sp C vs H1 Q E
section
variable {X : Cx} {T : List (Addr × Str)} {k kc kb : Nat} {x : Str} {g c P : Addr} {fd : FuncData} {ps lp : List Str} {sp : (Addr → Sp → Prop) → Sp} {E : XK} {te tb : TE} {t : TL} {e body : Expr} {es : List Expr} {params : Arguments} {scope : Scope} {p lpos pos : Pos} {put : L2.St → List V → L2.St}
theorem pl_cons (he : PE X e te) (h : PL X kc es t) (hs : starEach (e :: es) X.env = (false, eval e X.env) :: starEach es X.env := by rfl) : PL X kc (e :: es) (tlCons te t) := by
  refine ⟨fun pos pins s σ H R I q => ?_⟩
  rw [hs]
  exact Calls.spliced_cons (thn (he.run pins s σ H _ I q) fun u s1 ⟨v, H1, I1, r1, q1⟩ => thn (h.run pos pins s1 σ H1 _ I1 q1) fun us s2 ⟨vs, H2, I2, r2, q2⟩ => ⟨v :: vs, H2, I2, .cons r1 r2, q2⟩)
theorem pl_lam (TB : TabB X.base X.mg c P) (hcode : X.env.code = .ref c) (hmT : (P, X.env.qual ++ "<lambda>") ∈ T) (hu : ∀ p ∈ T, p.1 = P → p.2 = X.env.qual ++ "<lambda>") (L : LamP X.env.scope scope lp) (hdef : defaultsOf params X.env = ([], [])) (hkc : kc = kb + 1)
    (hbind : ∀ (q : Str) (cl : List (Str × Addr)) (pm cv ctv : Value) (us : List Value), us.length = lp.length → bindArgs (PySem.W.kla_fn "<lambda>" q params body scope cl pm cv ctv) ⟨us, []⟩ = pure (lp.zip us))
    (hput : ∀ (σ : L2.St) vs us, Vals vs us → us.length = lp.length → Slots X lp us σ (put σ vs))
    (hbody : ∀ (A : Around) (outer : List Env) (s : Shared) (H : Hp) (E : XK) (f c' : Addr), Room kb (A.deeper (lamEnv X scope s.heap.objs.size f c')) → PE (lamCx X A outer s H E scope f c') body tb) :
    PL X kc [.Lambda params body scope lpos] (tlLam T (X.env.qual ++ "<lambda>") lp.length tb put) := by
  subst hkc
  refine ⟨fun pos pins s σ H R I h => ?_⟩
  obtain ⟨hT, h⟩ := h
  show wpAny _ _ (spliced ((false, eval (.Lambda params body scope lpos) X.env) :: backTo pos (starEach [] X.env))) _ _ s
  refine Calls.spliced_cons (lam_make2 I TB hcode hmT hu hT hdef (L.has I.ok) fun f c' pm' ctv H1 s' I1 eN T1 hf hfn hfr hco => ?_)
  refine Calls.spliced_nil ⟨[.ref f], H1, I1, .cons rfl .nil, h f c' H1 _ eN T1 hco ?_⟩
  have C := clo_of (put := put σ) I1 L hf hfn hfr (hbind _ _ _ _ _) (hput σ) fun A outer s H E hr => hbody A outer s H E f c' hr
  exact C
theorem pe_callL (F : FnC X.prog X.w X.K X.mg X.base k g fd ps kc sp) (hr : Room k X.A) (hg : Gl X x) (hm : X.mg x = some (.ref g)) (hk : PySem.W.keepIn X.K (.ref g) = true) (hb : L2.Binds X.K fd ps []) (hx : Passes CX0 X E) (ha : PL X kc (e :: es) t)
    (hdb : (x == ("__debug__" : Str)) = false := by decide) (he : starEach (e :: es) X.env = (false, eval e X.env) :: starEach es X.env := by rfl) (hpl : (backTo pos (starEach es X.env)).any (·.1) = false := by rfl) :
    PE X (.Call (.Name x p) (e :: es) [] pos) (tCallL sp E t) := by
  refine ⟨fun pins s σ H Q I h => ?_⟩
  refine wpAny_Call_Name_kw (ld_glob I hg hm ?_ hdb)
  refine PySem.W.callWith_K (h₀ := X.base) I.ok.mod.kin hk (thn (ha.run pos pins s σ H _ I h) fun us s1 ⟨vs, H1, I1, r, q⟩ => ⟨I1.kIn, ?_⟩) he hpl
  have hl : (us ++ []).length = ps.length := by rw [List.append_nil, ← r.length]; exact F.len _ _ _ _ _ q
  have b := hb s1 us I1.kIn hl
  rw [List.append_nil] at b
  refine wpAny_call (codeAny_mono (F.run X.A X.stack s1 H1 ⟨us, []⟩ us vs Q E hr I1.env0 b r q) fun r s' z => ?_)
  match r, z with
  | .error v, z => exact hx pins σ H1 s1 v s' I1 z
  | .ok (.ret u), z => exact I1.after z
  | .ok .next, z => exact z.elim
  | .ok .brk, z => exact z.elim
  | .ok .cont, z => exact z.elim
end
/-! ### a maker of lambdas by its body: its code object is the one at c -/
section
variable {P : Program} {w : World} {K : PySem.W.Frag} {mg : Str → Option Value} {base : Heap}
theorem okM {x qual : Str} {st : Stmt} {f c : Addr} {fd : FuncData} {N ps : List Str} {k : Nat} {sp : Sp} (F : Fun K x qual st f fd) (hc : fd.code = .ref c) (S : FnScope N ps (defScope st)) (len : ∀ vs H Q E, sp vs H Q E → vs.length = ps.length)
    (hb : ∀ (A : Around) (out : List Env) (s : Shared) (H : Hp) (vs : List V) (Q : VK) (E : XK), Room k (A.deeper (envOfC qual (defScope st) s.heap.objs.size f (.ref c))) → sp vs H Q E →
      ∃ t, PSs (cxOf (L2.CX P w) P w K mg base N qual (defScope st) f (.ref c) A out s H E) (defBody st) t ∧ t { nx := fun _ H' => Q .non H', rt := Q } (start N vs) H) : FnOk P w K mg base (L2.CX P w) (k + 1) f fd ps sp := by
  obtain ⟨_, _, _, _, _, _, cdv, _, _, rfl, lk, hcd⟩ := F.ex
  have e : cdv = .ref c := hc
  subst e
  exact fn_of lk hcd S len fun A out s H vs Q E hr h => hb A out s H vs Q E hr h
end
theorem u65 {k : Nat} {A : PySem.Around} (h : L2.Room k A) : A.units + 65 < PySem.cLine := by have := h.un; omega
section
variable {σ : L2.St} {H : Hp}
theorem callL {sp : (Addr → Sp → Prop) → Sp} {E : XK} {t : TL} {Q : VK} (h : t σ H fun C vs H1 => sp C vs H1 Q E) : tCallL sp E t σ H Q := h
theorem lcons {te : TE} {t : TL} {R : (Addr → Sp → Prop) → List V → Hp → Prop} (h : te σ H fun v H1 => t σ H1 fun C vs H2 => R C (v :: vs) H2) : tlCons te t σ H R := h
theorem llam {T : List (Addr × Str)} {q : Str} {n : Nat} {tb : TE} {put : L2.St → List V → L2.St} {R : (Addr → Sp → Prop) → List V → Hp → Prop} (hT : Tabs T H) (h : ∀ (f c' : Addr) (H2 : Hp) (C : Addr → Sp → Prop), ExtN H H2 → Tabs T H2 → H2 c' = some (CodeO c' q) →
  C f (fun vs HZ Q _ => vs.length = n ∧ HZ c' = some (CodeO c' q) ∧ tb (put σ vs) HZ Q) → R C [.ref f] H2) : tlLam T q n tb put σ H R := ⟨hT, h⟩
theorem seq_ext {K : PySem.W.Frag} {H H' : Hp} (e : ExtN H H') {a : Addr} {xs : List V} (h : SqL K H a xs) : SqL K H' a xs := by
  rcases h with (h | ⟨o, h⟩) | h
  · exact .inl (.inl (e _ _ h fun _ q => nomatch q))
  · exact .inl (.inr ⟨o, e _ _ h fun _ q => nomatch q⟩)
  · exact .inr h
theorem tup_ext {K : PySem.W.Frag} {H H' : Hp} (e : ExtN H H') {a : Addr} {xs : List V} (h : SqT K H a xs) : SqT K H' a xs := by
  rcases h with (h | ⟨o, h⟩) | h
  · exact .inl (.inl (e _ _ h fun _ q => nomatch q))
  · exact .inl (.inr ⟨o, e _ _ h fun _ q => nomatch q⟩)
  · exact .inr h
theorem row_ext {K : PySem.W.Frag} {H H' : Hp} (e : ExtN H H') {a : Addr} {xs : List V} (h : Ru.SqR K H a xs) : Ru.SqR K H' a xs := h.imp (seq_ext e) (tup_ext e)
theorem row_same {K : PySem.W.Frag} {H H' : Hp} (s : Same H H') {a : Addr} {xs : List V} (h : Ru.SqR K H a xs) : Ru.SqR K H' a xs := h.imp s.seq (Ru.same_tup s)
theorem lst_ext {H H' : Hp} (e : ExtN H H') {a : Addr} {xs : List V} (h : H a = some (.lst xs)) : H' a = some (.lst xs) := e _ _ h fun _ q => nomatch q
theorem tp_ext {H H' : Hp} (e : ExtN H H') {a : Addr} {xs : List V} (h : H a = some (.tup xs)) : H' a = some (.tup xs) := e _ _ h fun _ q => nomatch q
theorem ins_ext {H H' : Hp} (e : ExtN H H') {a C dx : Addr} {fs : List (Str × V)} (h : H a = some (.ins C dx fs)) : H' a = some (.ins C dx fs) := e _ _ h fun _ q => nomatch q
theorem ext_same {H H1 H2 : Hp} (e : ExtN H H1) (s : Same H1 H2) : ExtN H H2 := e.trans (ExtN.of s)
theorem same_ext {H H1 H2 : Hp} (s : Same H H1) (e : ExtN H1 H2) : ExtN H H2 := (ExtN.of s).trans e
end
theorem catA {K : PySem.W.Frag} {H : Hp} {a b : Addr} {xs ys : List V} {Q : VK} (h1 : SqT K H a xs) (h2 : SqT K H b ys) (hy : ys ≠ []) (hz : xs.length + ys.length ≤ sizeLine) (k : ∀ (r : Addr) (G : Hp), Same H G → SqT K G r (xs ++ ys) → Q (.ref r) G) : rCatA K (.ref a) (.ref b) H Q :=
  ⟨a, b, xs, ys, rfl, rfl, h1, h2, hz, fun e => k b H (Same.refl _) (by rw [e]; exact h2), fun _ e => absurd e hy, fun _ _ p n => k p _ (Rd.same_upd n) (.of upd_same)⟩
/-- all but lists are kept -/
def NoL (H H' : Hp) : Prop := ∀ b o, H b = some o → (∀ xs, o ≠ .lst xs) → H' b = some o
theorem NoL.same {H H' : Hp} (s : Same H H') : NoL H H' := fun b o e _ => s b o e
theorem NoL.off {H H' : Hp} {l : Addr} {xs : List V} (h : H l = some (.lst xs)) (off : ∀ b, b ≠ l → H' b = H b) : NoL H H' := fun b o e n => by
  rw [off b fun q => n xs (by rw [q, h] at e; exact (Option.some.inj e).symm)]
  exact e
theorem NoL.but {H H' : Hp} {t : Addr} {xs : List V} (h : H t = some (.lst xs)) (b : Rd.But t H H') : NoL H H' := fun a o e n => by
  exact b a o (fun q => n _ (by rw [q, h] at e; exact (Option.some.inj e).symm)) e
theorem NoL.trans {H H1 H2 : Hp} (a : NoL H H1) (b : NoL H1 H2) : NoL H H2 := fun x o e n => b x o (a x o e n) n
theorem NoL.tup {H H' : Hp} (n : NoL H H') {a : Addr} {xs : List V} (h : H a = some (.tup xs)) : H' a = some (.tup xs) := n _ _ h fun _ q => nomatch q
theorem NoL.ins {H H' : Hp} (n : NoL H H') {a C dx : Addr} {fs : List (Str × V)} (h : H a = some (.ins C dx fs)) : H' a = some (.ins C dx fs) := n _ _ h fun _ q => nomatch q
theorem tabs_nol {T : List (Addr × Str)} {H H' : Hp} (t : Tabs T H) (e : NoL H H') : Tabs T H' := fun p hp => by
  obtain ⟨ps, h1, h2, h3⟩ := t p hp
  refine ⟨ps, (e _ _ h1 fun _ q => nomatch q), h2, fun pos cv hc => ?_⟩
  obtain ⟨c, e1, e2⟩ := h3 pos cv hc
  exact ⟨c, e1, e _ _ e2 fun xs q => by
    unfold CodeO at q
    cases q⟩
/-- enumerate(list), in a comprehension -/
theorem walk_enum {K : PySem.W.Frag} {a : Addr} {xs : List V} : Walk (Ite K a) xs.length (fun H => SqL K H a xs) (fun i H v H' => ∃ T x, v = .ref T ∧ H T = none ∧ H' = upd H T (.tup [.int (i : Nat), x]) ∧ xs[i]? = some x) where
  goes i H l h := ⟨xs, xs[i], h, List.getElem?_eq_getElem l⟩
  stops H h := ⟨xs, h, Nat.le_refl _⟩
  yields i H v H' l h y := by
    obtain ⟨T, x, rfl, hT, rfl, q⟩ := y
    exact ⟨T, x, rfl, hT, rfl, q xs h⟩
/-- the table of a code object of the part K -/
theorem tab_K {K : PySem.W.Frag} {h : Heap} {c P : Addr} (X : K.In h) (e : PySem.W.codeHdIn K c P = true) : PySem.W.CodeHd h c P := PySem.W.codeHd_of_K X e
end Rk

/-! A law whose own def asks repr and calls makers of lambdas: no repr is under way, and the code tables are there. -/
namespace Rk
open PySem PySem.Spec PyProof.Rows L2 LamX
def LawAtG (l : PySem.W.OpenLaw) (w : World) (K : PySem.W.Frag) (CX : CXT) (k n : Nat) (x : Str) (mg : Str → Option Value) (fa : Addr) (h : Heap) : Prop :=
  ∃ (fd : FuncData) (cs : List (Addr × Addr)) (sp : Sp), (∀ p ∈ cs, h.get? p.2 = some { cls := .none, data := .fields #[] }) ∧ (∀ p ∈ cs, K.lookup p.2 = none) ∧ (∀ p ∈ cs, PySem.W.CodeHd h p.1 p.2) ∧ (∀ (s : Shared) (u : Value), BindsTo s fd ⟨[u], []⟩ [(x, u)]) ∧
    (∀ (H : Hp) (a : Addr) (ns : List Int), ns.length ≤ n → (∀ z ∈ ns, Builtin.Int.intBits z ≤ 1048576) → (∀ p ∈ cs, H p.2 = some (.tbl #[])) → SqL K H a (ns.map V.int) → sp [.ref a] H (fun v _ => v = .bl true) fun _ _ _ => False) ∧
    ∀ base : Heap, K.In base → base.Ns mainGlobals mg → (∀ p ∈ cs, TabB base mg p.1 p.2) → Rg.FnG l.prog w K mg base CX k fa fd [x] sp
/-- the heap as it is seen behind the top: the script, unless it is one of the module's own objects, and the empty tables -/
def topH (K : PySem.W.Frag) (cs : List (Addr × Addr)) (a : Addr) (vs : List Value) (ns : List Int) : Hp := fun b =>
  if b = a then (if K.lookup a = none then some (.frz { cls := .type "list", data := .seq vs.toArray } (.lst (ns.map V.int))) else none) else if b ∈ cs.map (·.2) then some (.tbl #[]) else none
theorem topH_some {K : PySem.W.Frag} {cs : List (Addr × Addr)} {a b : Addr} {vs : List Value} {ns : List Int} {u : HO} (e : topH K cs a vs ns b = some u) :
    (b = a ∧ K.lookup a = none ∧ u = .frz { cls := .type "list", data := .seq vs.toArray } (.lst (ns.map V.int))) ∨ (b ≠ a ∧ (∃ p ∈ cs, b = p.2) ∧ u = .tbl #[]) := by
  unfold topH at e
  by_cases c : b = a
  · rw [if_pos c] at e
    by_cases k : K.lookup a = none
    · rw [if_pos k] at e
      cases e
      exact .inl ⟨c, k, rfl⟩
    · rw [if_neg k] at e
      cases e
  · rw [if_neg c] at e
    by_cases m : b ∈ cs.map (·.2)
    · rw [if_pos m] at e
      cases e
      obtain ⟨p, hp, q⟩ := List.mem_map.mp m
      exact .inr ⟨c, ⟨p, hp, q.symm⟩, rfl⟩
    · rw [if_neg m] at e
      cases e
theorem walk_ofTG {l : PySem.W.OpenLaw} {n k : Nat} {q : Program} {loose : List Str} {XP : (Str → Option Value) → Heap → Prop} {YP : World → Heap → Prop} {d : DefRec} {K : Params → PySem.W.Frag} {CX : World → CXT} {x : Str}
    (hn : l.most = some n) (hn2 : n ≤ sizeLine) (hdf : d.params.defaults = []) (hr : Room k callerA) (hY : ∀ (w : World) (h : Heap), YP w h → (K w.params).In h)
    (F : ∀ (w : World) (mg : Str → Option Value) (fa : Addr) (h : Heap), YP w h → (K w.params).In h → h.Ns mainGlobals mg → mg d.name = some (.ref fa) → LawAtG l w (K w.params) (CX w) k n x mg fa h)
    (hCX : ∀ (w : World) (H : Hp) (s : Shared) (e : Value) (s' : Shared), CX w [] H s (fun _ _ _ => False) e s' → False) :
    PySem.W.WalkO q loose XP YP l.row.toRowW d [] (fun f vs => PySem.call f vs) := by
  refine Att.attach_callB hn hdf fun w s₀ s1 mg mb fa o pm cd doc a vs ns G Y _ _ _ hmg hobj hints hlen hbits hgen => ?_
  have KX := hY w _ Y
  obtain ⟨fd, cs, sp, hT, nT, C, hbind, hsp, hF⟩ := F w mg fa _ Y KX G.T.g hmg
  have len : vs.length = ns.length := hints.length
  have rv := vals_ints hints
  have at_ : ∀ p ∈ cs, p.2 ≠ a := fun p hp e => by
    have z := hT p hp
    rw [e, hobj] at z
    cases z
  let H := topH (K w.params) cs a vs ns
  have hH : ∀ p ∈ cs, H p.2 = some (.tbl #[]) := fun p hp => by
    show (if p.2 = a then _ else _) = _
    rw [if_neg (at_ p hp), if_pos (List.mem_map.mpr ⟨p, hp, rfl⟩)]
  have hA : ∀ {b : Addr} {u : HO}, H b = some u → (b = a ∧ (K w.params).lookup a = none ∧ u = .frz { cls := .type "list", data := .seq vs.toArray } (.lst (ns.map V.int))) ∨ (b ≠ a ∧ (∃ p ∈ cs, b = p.2) ∧ u = .tbl #[]) := fun e => topH_some e
  have hS : SqL (K w.params) H a (ns.map V.int) := by
    cases hk : (K w.params).lookup a with
    | none => exact .inl (.inr ⟨_, by show (if a = a then _ else _) = _; rw [if_pos rfl, if_pos hk]⟩)
    | some ob =>
      have e := KX a ob hk
      rw [hobj] at e
      cases e
      exact .inr ⟨_, vs.toArray, _, hk, rfl, rfl, rfl, by rw [List.size_toArray, len]; omega, by simpa using rv⟩
  have hok : HOk l.prog w H s1.heap := fun b u z => by
    rcases hA z with ⟨rfl, _, rfl⟩ | ⟨_, ⟨p, hp, rfl⟩, rfl⟩
    · exact ⟨hobj, by rw [List.length_map]; omega, vs, _, rv, hobj⟩
    · exact hT p hp
  -- what is no list and no empty table is not seen
  have unseen : ∀ {b : Addr} {ob : Obj}, s1.heap.get? b = some ob → (∀ us m, ob.data ≠ .seq us m) → ob.data ≠ .fields #[] → H b = none := fun {b ob} e n1 n2 => by
    cases c : H b with
    | none => rfl
    | some u =>
      rcases hA c with ⟨rfl, _, _⟩ | ⟨_, ⟨p, hp, rfl⟩, _⟩
      · rw [hobj] at e
        cases e
        exact (n1 _ _ rfl).elim
      · rw [hT p hp] at e
        cases e
        exact (n2 rfl).elim
  have keepK : ∀ {b : Addr} {ob : Obj}, s1.heap.get? b = some ob → H b = none → (hidT s1.heap H).get? b = some ob := fun e z => hidT_get e z
  have noDict : ∀ {b : Addr} {ob : Obj} {es : Array DictEntry} {ep : Nat}, s1.heap.get? b = some ob → ob.data = .dict es ep → H b = none := fun {b ob es ep} e z =>
    unseen e (fun us m y => by rw [z] at y; cases y) fun y => by rw [z] at y; cases y
  have hns : ∀ {b : Addr} {m : Str → Option Value}, s1.heap.Ns b m → (hidT s1.heap H).Ns b m := fun {b m} ⟨ob, es, ep, e, z, r⟩ => ⟨ob, es, ep, keepK e (noDict e z), z, r⟩
  have hKb : (K w.params).In (hidT s1.heap H) := fun b ob e => keepK (KX b ob e) (by
    cases c : H b with
    | none => rfl
    | some u =>
      rcases hA c with ⟨rfl, z, _⟩ | ⟨_, ⟨p, hp, rfl⟩, _⟩
      · rw [z] at e
        cases e
      · rw [nT p hp] at e
        cases e)
  have hM : Mod (K w.params) mg (hidT s1.heap H) := ⟨hKb, hns G.T.g, ⟨mb, hns G.T.b, G.T.builtins⟩, let ⟨mc, h1, h2⟩ := G.T.nolimit; ⟨mc, hns h1, h2⟩⟩
  have TB : ∀ p ∈ cs, TabB (hidT s1.heap H) mg p.1 p.2 := fun p hp => by
    have tp := hT p hp
    refine ⟨?_, ?_, fun z => ?_⟩
    · obtain ⟨o, us, file, tf, flags, tg, inF, text, tt, e1, r1, r2, rest⟩ := C p hp
      refine ⟨o, us, file, tf, flags, tg, inF, text, tt, keepK e1 (unseen e1 (fun xs m z => by rw [r2] at z; cases z) fun z => ?_), r1, r2, rest⟩
      have r3 := rest.1
      rw [r2] at z
      cases z
      simp at r3
    · obtain ⟨bm, ob, b1, b2, b3, b4, b5, b6⟩ := G.T.bmain
      refine ⟨bm, ob, b1, b2, fun z => ?_, fun z => ?_, keepK b3 (unseen b3 (fun xs m z => by rw [b6] at z; cases z) fun z => by rw [b6] at z; cases z), b4, b5, b6⟩
      · obtain ⟨o2, es, ep, e, hd, _⟩ := G.T.g
        rw [z, e] at b3
        cases b3
        rw [hd] at b6
        cases b6
      · rw [z, tp] at b3
        cases b3
        cases b6
    · obtain ⟨o2, es, ep, e, hd, _⟩ := G.T.g
      rw [z, tp] at e
      cases e
      cases hd
  have e0 : Env0 l.prog w (K w.params) mg (hidT s1.heap H) callerA [] s1 H := ⟨rfl, hM, fun b ob e => of_hidT e, Nat.le_of_eq (hidT_size _ _), trivial, fun b z => absurd z List.not_mem_nil, hok, .of_eq hgen⟩
  refine codeAny_mono ((hF _ hKb (hns G.T.g) TB).run callerA [] s1 H ⟨[.ref a], []⟩ [.ref a] [.ref a] _ _ rfl hr e0 (hbind s1 (.ref a)) (.cons rfl .nil) (hsp H a ns hlen hbits hH hS)) fun r s' z => ?_
  match r, z with
  | .error v, z => exact (hCX w H s1 v s' z).elim
  | .ok .next, z => exact z.elim
  | .ok .brk, z => exact z.elim
  | .ok .cont, z => exact z.elim
  | .ok (.ret u), z =>
    obtain ⟨v, H', os, bare, un, hok', rel, rfl⟩ := z
    obtain rfl : u = Value.bool true := rel
    have plain : ∀ {b : Addr} {ob : Obj}, s1.heap.get? b = some ob → (∀ p ∈ cs, b ≠ p.2) → s'.heap.get? b = some ob := fun {b ob} e nt => by
      cases c : H b with
      | none => exact un.keep b ob e c (fun y => absurd y List.not_mem_nil) (fun y => absurd y List.not_mem_nil)
      | some u =>
        rcases hA c with ⟨rfl, _, rfl⟩ | ⟨_, ⟨p, hp, q⟩, _⟩
        · obtain ⟨e2, _⟩ := hok' _ _ (un.frzs _ _ _ c)
          rw [hobj] at e
          cases e
          exact e2
        · exact absurd q (nt p hp)
    have grown : ∀ p ∈ cs, ∃ more : Array Value, s'.heap.get? p.2 = some { cls := .none, data := .fields more } := fun p hp => by
      obtain ⟨more, z⟩ := un.tbls p.2 #[] (hH p hp)
      exact ⟨_, hok' p.2 _ z⟩
    refine ⟨rfl, ⟨fun b ob e => ?_, fun b ob e => ?_⟩, os, bare⟩
    · by_cases t : ∃ p ∈ cs, b = p.2
      · obtain ⟨p, hp, rfl⟩ := t
        obtain ⟨more, z⟩ := grown p hp
        rw [hT p hp] at e
        cases e
        exact .inr (.inl ⟨((C p hp).tab (hT p hp)).isCodeTable, rfl, #[], more, rfl, by rw [Array.empty_append]; exact z⟩)
      · exact .inl (plain e fun p hp z => t ⟨p, hp, z⟩)
    · by_cases t : ∃ p ∈ cs, b = p.2
      · obtain ⟨p, hp, rfl⟩ := t
        obtain ⟨more, z⟩ := grown p hp
        exact ⟨_, z⟩
      · exact ⟨ob, plain e fun p hp z => t ⟨p, hp, z⟩⟩
end Rk

/-! A try with several clauses, each with a name or without. -/
namespace Rh
open PySem PySem.Spec PyProof.Rows L2
/-- a clause: its class, the slot of its name (if it has one), what its suite does -/
structure Cl where
  cls : Value
  slot : Option Nat
  does : Addr → Value → Option Addr → TS
/-- how a suite ends where its name is gone -/
def gone (o : Option Nat) (D : Ends) : Ends := match o with
  | none => D
  | some i => { nx := fun σ G => D.nx (σ.set i none) G, rt := D.rt, bk := fun σ G => D.bk (σ.set i none) G, ct := fun σ G => D.ct (σ.set i none) G }
/-- how it begins -/
def named (o : Option Nat) (a : Addr) (σ : L2.St) : L2.St := match o with
  | none => σ
  | some i => σ.set i (some (.ref a))
/-- what the clauses wish of an exception of the body -/
def wish (K : PySem.W.Frag) (W0 : WX) (D : Ends) : List Cl → WX
  | [] => W0
  | q :: r => fun kl d σ G => ∃ y, PySem.W.exmOne K kl q.cls = some y ∧ (y = true → ∀ a, G a = none → q.does a kl d (gone q.slot D) (named q.slot a σ) G) ∧ (y = false → wish K W0 D r kl d σ G)
/-- a clause of the text and what is known of it -/
inductive Fits (X : Cx) : List ExceptHandler → List Cl → Prop
  | nil : Fits X [] []
  | bare {x : Str} {v : Value} {ts : Addr → Value → Option Addr → TS} {s0 : Stmt} {more : List Stmt} {p1 p2 : Pos} {es : List ExceptHandler} {qs : List Cl} (nm : Names X x v)
      (run : ∀ (a : Addr) (ob : Obj) (kl : Value) (d : Option Addr) (pn : List (Addr × Obj)), Zc kl d ob → (∃ vs, ob.data = .fields vs) → PSs (X.suite a ((a, ob) :: pn)) (s0 :: more) (ts a kl d)) (t : Fits X es qs) :
      Fits X (.ExceptHandler (some (.Name x p1)) none (s0 :: more) p2 :: es) (⟨v, none, ts⟩ :: qs)
  | kept {x n : Str} {i : Nat} {v : Value} {ts : Addr → Value → Option Addr → TS} {s0 : Stmt} {more : List Stmt} {p1 p2 : Pos} {es : List ExceptHandler} {qs : List Cl} (nm : Names X x v) (ni : X.N[i]? = some n) (nl : X.env.kindOf n = some .local)
      (run : ∀ (a : Addr) (ob : Obj) (kl : Value) (d : Option Addr) (pn : List (Addr × Obj)), Zc kl d ob → (∃ vs, ob.data = .fields vs) → PSs (X.suite a ((a, ob) :: pn)) (s0 :: more) (ts a kl d)) (t : Fits X es qs) :
      Fits X (.ExceptHandler (some (.Name x p1)) (some n) (s0 :: more) p2 :: es) (⟨v, some i, ts⟩ :: qs)
section
variable {X : Cx} {pins : List (Addr × Obj)} {W0 : WX} {D : Ends}
/-- an exception's object is no frame -/
theorem no_frame {B g : Heap} {l : List Env} {a : Addr} {ob : Obj} {vs : Array Value} (F : g.FunFrames B l) (ga : g.get? a = some ob) (gd : ob.data = .fields vs) : a ∉ frs l := fun hm => by
  obtain ⟨_, ob2, g2, no⟩ := F.mem hm
  rw [ga] at g2
  cases g2
  exact no _ gd
/-- the suite's ends, its name gone, are the try's -/
theorem after {o : Option Nat} {n : Option Str} {p : Pos} {pn : List (Addr × Obj)} {a : Addr} {q : Addr × Obj} {s1 : Shared} {f : Flow} {P : Flow → Shared → Prop} (ok : X.Ok) (nod : X.N.Nodup)
    (hn : (o = none ∧ n = none) ∨ ∃ i w, o = some i ∧ n = some w ∧ X.N[i]? = some w ∧ X.env.kindOf w = some .local)
    (hP : ∀ f s2, SP X pins D f s2 → P f s2)
    (z : SP (X.suite a (q :: (X.pn ++ pins))) [] (gone o D) f s1) : (n = none → P f s1) ∧ ∀ w, n = some w → wpAny (model X.prog X.w) X.A (do bindName X.env w .none; unbindBehindTheSuite X.env w p) (fun _ s2 => P f s2) X.xe s1 := by
  refine ⟨fun e => hP _ _ ?_, fun w e => ?_⟩
  · rcases hn with ⟨rfl, _⟩ | ⟨i, w, _, e2, _⟩
    · cases f with
      | next => obtain ⟨σ6, G6, J6, r6⟩ := z; exact ⟨σ6, G6, J6.unsuite ok, r6⟩
      | brk => obtain ⟨σ6, G6, J6, r6⟩ := z; exact ⟨σ6, G6, J6.unsuite ok, r6⟩
      | cont => obtain ⟨σ6, G6, J6, r6⟩ := z; exact ⟨σ6, G6, J6.unsuite ok, r6⟩
      | ret u => obtain ⟨v6, σ6, G6, J6, rv, r6⟩ := z; exact ⟨v6, σ6, G6, J6.unsuite ok, rv, r6⟩
    · rw [e] at e2
      cases e2
  · rcases hn with ⟨_, e2⟩ | ⟨i, w2, rfl, e2, ni, nl⟩
    · rw [e] at e2
      cases e2
    · rw [e] at e2
      cases e2
      cases f with
      | next => obtain ⟨σ6, G6, J6, r6⟩ := z; exact gone_ok (J6.unsuite ok) nod ni nl fun s7 J7 => hP _ _ ⟨_, _, J7, r6⟩
      | brk => obtain ⟨σ6, G6, J6, r6⟩ := z; exact gone_ok (J6.unsuite ok) nod ni nl fun s7 J7 => hP _ _ ⟨_, _, J7, r6⟩
      | cont => obtain ⟨σ6, G6, J6, r6⟩ := z; exact gone_ok (J6.unsuite ok) nod ni nl fun s7 J7 => hP _ _ ⟨_, _, J7, r6⟩
      | ret u => obtain ⟨v6, σ6, G6, J6, rv, r6⟩ := z; exact gone_ok (J6.unsuite ok) nod ni nl fun s7 J7 => hP _ _ ⟨_, _, _, J7, rv, r6⟩
/-- the clauses, one after the other -/
theorem clauses {B : Heap} {a : Addr} {kl : Value} {d : Option Addr} {sI s1 : Shared} {σ : L2.St} {G : Hp} {g : Heap} (stk : X.stack = X.env :: X.outer) (frm : X.env.frame = some X.env.locals) (nod : X.N.Nodup) (tk : Takes X W0)
    (J : Inv X pins σ G sI) (nb : ∀ b o, sI.heap.get? b = some o → b ∉ frs X.stack → B.get? b = some o) (na : G a = none) (os : s1.os = sI.os) (ag : AllBare s1.gens)
    (up : sI.heap.UpToSlots g) (fl : HandSPX.FlyingZ B (X.env :: X.outer) a (Zc kl d) g) {es : List ExceptHandler} {qs : List Cl} (F : Fits X es qs) :
    wish X.K W0 D qs kl d σ G → wpAny (model X.prog X.w) X.A (handleBy (.ref a) X.env es) (SP X pins D) X.xe { s1 with heap := g } := by
  have land : ∀ {k : Heap}, sI.heap.UpToSlots k → HandSPX.FlyingZ B (X.env :: X.outer) a (Zc kl d) k → Inv X pins σ G { s1 with heap := k } := fun u f => J.landed nb f.1 u os ag
  have J3 := land up fl
  obtain ⟨ob, vs, ga, gz, gd⟩ := fl.there
  have nf := no_frame fl.2.2.1 ga gd
  have nL : a ≠ X.env.locals := fun e => nf (List.mem_filterMap.mpr ⟨X.env, List.mem_cons_self, by rw [frm, e]⟩)
  have nF : a ∉ X.fs := fun m => let ⟨e, he, q⟩ := List.mem_filterMap.mp m; nf (List.mem_filterMap.mpr ⟨e, List.mem_cons_of_mem _ he, q⟩)
  have J3s := J3.suite ga gd na nL nF
  have LT : PySem.W.Looks (model X.prog X.w) g (typeOf (.ref a)) kl := fun A Q E s k q => wpAny_typeOf_ref (k _ _ ga) (by rw [gz.1]; exact q)
  have ask : ∀ {x : Str} {c : Value} {np : Pos}, Names X x c → ∀ {Q E : Value → Shared → Prop}, Q c { s1 with heap := g } → wpAny (model X.prog X.w) (X.A.mark (some (.ref a))) (eval (.Name x np) X.env) Q E { s1 with heap := g } := by
    rintro x c np ⟨gl, db, m | ⟨m, bt, nn⟩⟩ Q E q
    · exact ld_glob (X := X.suite a ((a, ob) :: (X.pn ++ pins))) J3s gl m q db
    · exact ld_blt (X := X.suite a ((a, ob) :: (X.pn ++ pins))) J3s gl m bt q nn db
  induction F with
  | nil =>
    intro wsh
    refine wpAny_handleBy_nil ?_
    obtain ⟨_, _, _, ob2, vs2, tr, _, _, g2, _, d2, f1, _⟩ := id fl
    unfold PySem.passOn
    refine wpAny_bind (wpAny_field g2 d2 f1 ?_)
    rw [if_neg (show ¬ ((Value.ref tr == Value.none) = true) from by simp)]
    have out : wpAny (model X.prog X.w) X.A (setFlight (.ref a) X.env.frame) (fun _ s4 => wpAny (model X.prog X.w) X.A (throw (.ref a) : Sem Flow) (SP X pins D) X.xe s4) X.xe { s1 with heap := g } := by
      rw [frm]
      exact HandSPX.setFlight_upZ fl fun k held u => wpAny_throw (tk _ _ ⟨a, B, sI, pins, σ, G, kl, d, rfl, J, nb, up.trans u, .inr (.inr (by rw [stk]; exact held)), na, os, ag, wsh⟩)
    first
      | exact wpAny_bind (wpAny_pure (wpAny_bind out))
      | exact wpAny_bind out
  | @bare x v ts s0 more p1 p2 es2 qs2 nm run t ih =>
    rintro ⟨y, y1, yes, no⟩
    refine wpAny_handleBy_cons (codeAny_handlers_test (ask nm ((PySem.W.exm_one (M := model X.prog X.w) J3.kIn LT y1).here ?_))) (by intro q; cases q)
    cases y with
    | false => exact ih (no rfl)
    | true =>
      refine codeAny_handlers_suite (HandSPX.lands_againZ fl fun k fk uk => ?_)
      have J4 := land (up.trans uk) fk
      obtain ⟨ob4, vs4, g4, z4, d4⟩ := fk.there
      exact wpAny_mono ((run a ob4 kl d (X.pn ++ pins) z4 ⟨_, d4⟩).run [] _ _ G _ (J4.suite g4 d4 na nL nF) (yes rfl a na)) (fun f s6 z => (after (o := none) (n := none) (p := p2) (pn := []) J.ok nod (.inl ⟨rfl, rfl⟩) (fun _ _ q => q) z).1 rfl) fun _ _ z => False.elim z
  | @kept x n i v ts s0 more p1 p2 es2 qs2 nm ni nl run t ih =>
    rintro ⟨y, y1, yes, no⟩
    refine wpAny_handleBy_cons (codeAny_handlers_test (ask nm ((PySem.W.exm_one (M := model X.prog X.w) J3.kIn LT y1).here ?_))) (by intro q; cases q)
    cases y with
    | false => exact ih (no rfl)
    | true =>
      refine codeAny_handlers_suite_as (HandSPX.lands_againZ fl fun k fk uk => ?_)
      have J4 := land (up.trans uk) fk
      obtain ⟨ob4, vs4, g4, z4, d4⟩ := fk.there
      refine store_ok (X := X.suite a ((a, ob4) :: (X.pn ++ pins))) (v := .ref a) (J4.suite g4 d4 na nL nF) nod ni (.inl nl) rfl (fun s5 J5 => ?_) (.inr nl)
      exact wpAny_mono ((run a ob4 kl d (X.pn ++ pins) z4 ⟨_, d4⟩).run [] s5 _ G _ J5 (yes rfl a na)) (fun f s6 z => (after (o := some i) (n := some n) (p := p2) (pn := []) J.ok nod (.inr ⟨i, n, rfl, rfl, ni, nl⟩) (fun _ _ q => q) z).2 n rfl) fun _ _ z => False.elim z
/-- THE RULE for a try with any clauses -/
theorem ps_tryC {body : List Stmt} {e0 : ExceptHandler} {es : List ExceptHandler} {qs : List Cl} {p : Pos} {tb : WX → TS} (stk : X.stack = X.env :: X.outer) (frm : X.env.frame = some X.env.locals) (nod : X.N.Nodup) (tk : Takes X W0) (F : Fits X (e0 :: es) qs)
    (hb : ∀ (W : WX) (pn : List (Addr × Obj)) (xe : Value → Shared → Prop), Takes (X.tr pn xe) W → PassesOwn (model X.prog X.w) X.A X.env xe → PSs (X.tr pn xe) body (tb W)) :
    PS X (.Try body (e0 :: es) [] [] p) (fun D σ H => tb (wish X.K W0 D qs) D σ H) := by
  refine ⟨fun pins s σ H D I h => ?_⟩
  have fr2 : X.A.frames = some (X.env :: X.outer) := by rw [I.ok.frames, stk]
  refine wpAny_Try_except ?_
  refine wpAny_mono ((hb (wish X.K W0 D qs) (X.pn ++ pins) (fun u s₁ => wpAny (model X.prog X.w) X.A (noteFrame u X.env) (fun _ s₂ => wpAny (model X.prog X.w) X.A (setFlight u none) (fun _ s₃ =>
    wpAny (model X.prog X.w) X.A (handleBy u X.env (e0 :: es)) (SP X pins D) X.xe s₃) X.xe s₂) X.xe s₁) (fun u s' out => ?_) PassesOwn.looking).run [] s σ H D (I.toTry _) h) (fun f s1 z => ?_) fun _ _ z => z
  · obtain ⟨a, B, sI, pn2, σ2, G, kl, d, rfl, K2, nb, up, sky, na, os, ag, wsh⟩ := out
    rw [show (X.tr (X.pn ++ pins) _).stack = X.env :: X.outer from stk] at sky
    exact Sky.land Zc.steady fr2 frm sky fun g fl ug => clauses stk frm nod tk (K2.ofTry I.ok) nb na os ag (up.trans ug) fl F wsh
  · cases f with
    | next => obtain ⟨σ2, G, K2, q⟩ := z; exact wpAny_execs_nil ⟨σ2, G, K2.ofTry I.ok, q⟩
    | brk => obtain ⟨σ2, G, K2, q⟩ := z; exact ⟨σ2, G, K2.ofTry I.ok, q⟩
    | cont => obtain ⟨σ2, G, K2, q⟩ := z; exact ⟨σ2, G, K2.ofTry I.ok, q⟩
    | ret u => obtain ⟨v, σ2, G, K2, rv, q⟩ := z; exact ⟨v, σ2, G, K2.ofTry I.ok, rv, q⟩
/-! ### which clause takes it -/
theorem wish_hit0 {K : PySem.W.Frag} {fI C E : Addr} {does : Addr → Value → Option Addr → TS} {qs : List Cl} {d : Option Addr} {σ : L2.St} {G : Hp} (FE : Rx.ExcF K fI E) (h : PySem.W.subIn K (.ref C) (.ref E) = some true) (k : ∀ a, G a = none → does a (.ref C) d D σ G) :
    wish K W0 D (⟨.ref E, none, does⟩ :: qs) (.ref C) d σ G := ⟨true, Rx.exm FE h, fun _ => k, fun e => (nomatch e)⟩
theorem wish_hit {K : PySem.W.Frag} {fI C E : Addr} {i : Nat} {does : Addr → Value → Option Addr → TS} {qs : List Cl} {d : Option Addr} {σ : L2.St} {G : Hp} (FE : Rx.ExcF K fI E) (h : PySem.W.subIn K (.ref C) (.ref E) = some true)
    (k : ∀ a, G a = none → does a (.ref C) d { nx := fun σ G => D.nx (σ.set i none) G, rt := D.rt, bk := fun σ G => D.bk (σ.set i none) G, ct := fun σ G => D.ct (σ.set i none) G } (σ.set i (some (.ref a))) G) :
    wish K W0 D (⟨.ref E, some i, does⟩ :: qs) (.ref C) d σ G := ⟨true, Rx.exm FE h, fun _ => k, fun e => (nomatch e)⟩
theorem wish_miss {K : PySem.W.Frag} {fI C E : Addr} {slot : Option Nat} {does : Addr → Value → Option Addr → TS} {qs : List Cl} {d : Option Addr} {σ : L2.St} {G : Hp} (FE : Rx.ExcF K fI E) (h : PySem.W.subIn K (.ref C) (.ref E) = some false) (k : wish K W0 D qs (.ref C) d σ G) :
    wish K W0 D (⟨.ref E, slot, does⟩ :: qs) (.ref C) d σ G := ⟨false, Rx.exm FE h, fun e => (nomatch e), fun _ => k⟩
/-! ### raise C() with a default None -/
theorem pmk_oex0 {CX : CXT} {x : Str} {C fI : Addr} {k : Nat} {fd : FuncData} {ps : List Str} {sp : Sp} {ds : List Value} {dvs : List V} {p pos : Pos} (T : OexC X.K C) (iC : PySem.W.findIn X.K (.ref C) "__init__" = some (some (.ref fI))) (tI : PySem.W.typeIn X.K (.ref fI) = some (.type "function"))
    (F1 : FnOk X.prog X.w X.K X.mg X.base CX k fI fd ps sp) (hr : Room (k + 1) X.A) (hb : Binds X.K fd ps ds) (hd : Vals dvs ds) (hx : Passes CX X (fun _ _ _ => False)) (hg : Gl X x) (hm : X.mg x = some (.ref C)) (hdb : (x == ("__debug__" : Str)) = false := by decide) :
    PMk X (.Call (.Name x p) [] [] pos) (tMkO C sp dvs tNil) := by
  intro pins s σ H Q I q1
  obtain ⟨nm, q, N, bs, bm, sn, sub, ab, col, dd, k0, k1, k2, k3, k5, hC, hbm⟩ := T.cls
  refine wpAny_Call_Name_kw (ld_glob I hg hm ?_ hdb)
  refine PySem.W.callWith_K0 I.kIn T.kC ?_
  show wpAny _ _ (call (.ref C) []) _ _ _
  obtain ⟨hp, g, dr, tk, os⟩ := s
  have hsz := Nat.le_succ hp.objs.size
  have hq := q1.2 (hp.objs.size + 1) (I.hok.fresh hsz)
  have kk : ∀ b o, hp.get? b = some o → ((hp.push (PySem.W.kdv_tup [])).push (PySem.HandSPX.excO C hp.objs.size)).get? b = some o := fun b o e => Heap.get?_push_of_some _ (Heap.get?_push_of_some _ e)
  have hget : ((hp.push (PySem.W.kdv_tup [])).push (PySem.HandSPX.excO C hp.objs.size)).get? (hp.objs.size + 1) = some (PySem.HandSPX.excO C hp.objs.size) := by heap_get
  have I2 : Inv X pins σ (upd H (hp.objs.size + 1) (exo (hp.objs.size + 1) C none)) ⟨(hp.push (PySem.W.kdv_tup [])).push (PySem.HandSPX.excO C hp.objs.size), g, dr, tk, os⟩ :=
    I.laid (t' := tk) kk hsz (exo_ok hget)
  have r2 : Vals (V.ref (hp.objs.size + 1) :: dvs) (Value.ref (hp.objs.size + 1) :: ds) := .cons rfl hd
  have hl : (Value.ref (hp.objs.size + 1) :: ds).length = ps.length := by
    have e := r2.length
    have e2 := F1.len _ _ _ _ hq
    rw [List.nil_append] at e2
    exact e.symm.trans e2
  refine wpAny_call (PySem.HandSPX.call_own F.excBase_ValueError (fun Y => PySem.HandSPX.refsVE_contains Y bm hbm) (I.kIn _ _ hC) (PySem.W.looks_findIn I.kIn iC) (fun self => PySem.W.bind_fn I.kIn self tI) (Nat.zero_le _)
    (codeAny_mono (F1.run _ X.stack _ _ ⟨[Value.ref (hp.objs.size + 1)], []⟩ (Value.ref (hp.objs.size + 1) :: ds) _ _ (fun _ _ _ => False) (hr.make C [] []) (I2.env0.make C [] []) (hb _ [Value.ref (hp.objs.size + 1)] I2.kIn hl) r2 hq) fun r s' hq' => ?_))
  cases r with
  | error er => exact hx pins σ _ _ er s' I2 hq'
  | ok fl =>
    cases fl with
    | ret u =>
      obtain ⟨v, H2, os2, bare2, un2, hok2, rv, ev, d, fs, ea, ed, hd1, q2⟩ := hq'
      subst ev
      obtain ⟨h2, g2, d2, t2, os'⟩ := s'
      exact ⟨rv, mk_end (raises_own T.exC T.tyC) I hsz kk un2 hok2 os2 bare2 ea ed hd1 q2⟩
    | next => exact False.elim hq'
    | brk => exact False.elim hq'
    | cont => exact False.elim hq'
open Rx in
theorem mk_reads0 {K : PySem.W.Frag} {fI C : Addr} {σ : L2.St} {H : Hp} {Q : XK} (F : ExcF K fI C) (hv : RaiseQ C .non H Q) : tMkO C (spWe K) [.non] tNil σ H Q := by
  refine ⟨(by decide : 0 ≤ 1000), fun a na => ⟨a, C, .non, rfl, F.ox, F.nv, upd_same, fun dx ndx ne => ⟨rfl, dx, [("value", .non)], upd_same, ?_, ?_, ?_⟩⟩⟩
  · rw [upd_ne ne, upd_same]
  · rw [upd_ne ne] at ndx
    exact ndx
  · rw [upd_ne ne] at ndx
    refine hv dx _ ndx upd_same fun b hb => ?_
    rw [upd_ne hb]
    by_cases c : b = a
    · rw [c, del_same, na]
    · rw [del_ne c, upd_ne c, upd_ne hb, upd_ne c]
open Rx in
/-- raise C() -/
def tRaise0 (C : Addr) (W : WX) : TS := fun _ σ H => RaiseQ C .non H fun cls d H2 => W cls d σ H2
open Rx in
theorem ps_raise0 {x : Str} {p pos pos2 : Pos} {C fI : Addr} {k : Nat} {fd : FuncData} {W : WX} (hc : X.calm = true) (F : ExcF X.K fI C) (tI : PySem.W.typeIn X.K (.ref fI) = some (.type "function")) (F1 : FnOk X.prog X.w X.K X.mg X.base CX0 k fI fd ["self", "value"] (spWe X.K)) (hr : Room (k + 1) X.A) {ds : List Value} (hb : Binds X.K fd ["self", "value"] ds) (hd : Vals [.non] ds)
    (hg : Gl X x) (hm : X.mg x = some (.ref C)) (tk : Takes X W) (hdb : (x == ("__debug__" : Str)) = false := by decide) :
    PS X (.Raise (some (.Call (.Name x p) [] [] pos)) none pos2) (tRaise0 C W) :=
  have z := ps_raise (pos := pos2) hc tk (pmk_oex0 (p := p) (pos := pos) F.ox F.iC tI F1 hr hb hd (CX := CX0) (fun _ _ _ _ _ _ _ h => h.elim) hg hm hdb)
  ⟨fun pins s σ H D I h => z.run pins s σ H D I (mk_reads0 F h)⟩
end
end Rh

/-! A list compared with itself; a thing asked for one of four own classes. -/
namespace Bw
open PySem PySem.Spec PyProof.Rows L2 Rd
variable {X : Cx} {D : Ends} {σ : L2.St} {H H' : Hp} {K : PySem.W.Frag}
/-- two lists whose items are equal -/
def LstEq (K : PySem.W.Frag) (H : Hp) (x y : V) : Prop := ∃ a b xs ys, x = .ref a ∧ y = .ref b ∧ SqL K H a xs ∧ SqL K H b ys ∧ Paired (Rx.EqI K H) xs ys
def rNeL (K : PySem.W.Frag) : R2 := fun x y H Q => LstEq K H x y ∧ Q (.bl false) H
theorem op_neL (hu : X.A.units + 66 < cLine) : OpR X (compareOp .NotEq) (rNeL X.K) := by
  intro pins s σ H x y v u Q I rx ry h
  obtain ⟨⟨a, b, xs, ys, rfl, rfl, ha, hb, hp⟩, q⟩ := h
  cases (show v = Value.ref a from rx)
  cases (show u = Value.ref b from ry)
  obtain ⟨us, r1, p1, _⟩ := I.list ha
  obtain ⟨ws, r2, p2, _⟩ := I.list hb
  have hsz : us.toArray.size = ws.toArray.size := by
    rw [List.size_toArray, List.size_toArray, ← r1.length, ← r2.length]
    exact Paired.length hp
  refine SeqAt.RcNeAt.lists (e := fun _ => true) p1.isList p2.isList hsz (by omega) (fun j h1 h2 => ?_) X.prog X.w _ _ ?_
  · have k := Rx.eqIs_run I (A := X.A.in1) (by show X.A.units + 1 + 64 < cLine; omega) hp r1 r2 j (by simpa using h1) (by simpa using h2)
    simpa using k
  · rw [show ((List.range us.toArray.size).all fun _ => true) = true from List.all_eq_true.mpr fun _ _ => rfl]
    exact ⟨.bl false, H, I, by simp [L2.RelV], q⟩
theorem eqI_self {x : V} (h : flatB x = true ∨ ∃ a, x = .ref a) : Rx.EqI K H x x := h.elim (fun f => .inl ⟨rfl, f⟩) fun ⟨a, e⟩ => .inr (.inl ⟨a, e, e⟩)
theorem eqIs_self : ∀ {xs : List V}, (∀ x ∈ xs, flatB x = true ∨ ∃ a, x = .ref a) → Paired (Rx.EqI K H) xs xs
  | [], _ => .nil
  | x :: xs, h => .cons (eqI_self (h x List.mem_cons_self)) (eqIs_self fun y m => h y (List.mem_cons_of_mem _ m))
theorem neL {a : Addr} {xs : List V} {Q : VK} (h : SqL K H a xs) (f : ∀ x ∈ xs, flatB x = true ∨ ∃ b, x = .ref b) (q : Q (.bl false) H) : rNeL K (.ref a) (.ref a) H Q := ⟨⟨a, a, xs, xs, rfl, rfl, h, h, eqIs_self f⟩, q⟩
/-- isinstance of a tuple of four own classes -/
theorem ask4 {x : V} {t : Value} {tp : Addr} {A B C D : Addr} {a b c d : Bool} {Q : VK} (ht : H tp = some (.tup [.ref A, .ref B, .ref C, .ref D])) (ty : TyX K H x t) (ka : PySem.W.kitOne K t (.ref A) = some a) (kb : PySem.W.kitOne K t (.ref B) = some b) (kc : PySem.W.kitOne K t (.ref C) = some c) (kd : PySem.W.kitOne K t (.ref D) = some d) (q : Q (.bl (a || b || c || d)) H) : rIsiT K [x, .ref tp] H Q := by
  refine ⟨_, tp, _, _, [.ref A, .ref B, .ref C, .ref D], (a || b || c || d), rfl, ht, .cons (.own _) (.cons (.own _) (.cons (.own _) (.cons (.own _) .nil))), ty, ?_, q⟩
  refine kitAny_cons ka (fun e => kitAny_cons kb (fun e2 => kitAny_cons kc (fun e3 => kitAny_cons kd (fun e4 => ?_) fun e4 => ?_) fun e3 => ?_) fun e2 => ?_) fun e => ?_
  · rw [kitAny_nil]; subst e e2 e3 e4; rfl
  · subst e e2 e3 e4; rfl
  · subst e e2 e3; rfl
  · subst e e2; rfl
  · subst e; rfl
end Bw

namespace W
open PySem PySem.Spec PyProof.Rows L2
def top (i : Nat) : Stmt := PySem.Challenge.pw_watchedways_k71_telling_refused.main.body.getD i (.Pass ⟨0, 0, 0, 0⟩)
abbrev s_WayError_init : Stmt := inClass (top 2) 0
abbrev s_is_integer : Stmt := top 14
abbrev s_is_letters : Stmt := top 15
abbrev s_is_word : Stmt := top 16
abbrev s_is_watch : Stmt := top 17
abbrev s_text_key : Stmt := top 18
abbrev s_row_key : Stmt := top 19
abbrev s_in_order : Stmt := top 20
abbrev s_Book_init : Stmt := inClass (top 23) 0
abbrev s_check_book : Stmt := top 24
abbrev s_ordered_watches : Stmt := top 25
abbrev s_links_of : Stmt := top 27
abbrev s_grown : Stmt := top 28
abbrev s_leads : Stmt := top 29
abbrev s_distances : Stmt := top 30
abbrev s_shortest : Stmt := top 31
abbrev s_steps_between : Stmt := top 33
abbrev s_rule_by : Stmt := top 34
abbrev s_check_words : Stmt := top 39
abbrev s_leads_all : Stmt := top 40
abbrev s_tells : Stmt := top 41
abbrev s_tells_book : Stmt := top 42
abbrev s_rules_for : Stmt := top 43
abbrev s_needless : Stmt := top 44
abbrev s_told_words : Stmt := top 45
abbrev s_masks_by_size : Stmt := top 48
abbrev s_chosen : Stmt := top 49
abbrev s_least_masks : Stmt := top 50
abbrev s_greatest_masks : Stmt := top 51
abbrev s_check_few : Stmt := top 52
abbrev s_as_lots : Stmt := top 53
abbrev s_least_lots : Stmt := top 54
abbrev s_unable_lots : Stmt := top 55
abbrev s_is_sublot : Stmt := top 56
abbrev s_is_least_lot : Stmt := top 57
abbrev s_is_unable_lot : Stmt := top 58
abbrev s_l_tape : Stmt := top 60
abbrev s_l_pick : Stmt := top 61
abbrev s_l_letters : Stmt := top 62
abbrev s_l_word : Stmt := top 63
abbrev s_l_piece : Stmt := top 64
abbrev s_l_pathed : Stmt := top 65
abbrev s_l_watches : Stmt := top 66
abbrev s_l_odd : Stmt := top 67
abbrev s_l_is_word : Stmt := top 68
abbrev s_l_asked : Stmt := top 69
abbrev s_l_tried : Stmt := top 70
abbrev s_l_fault : Stmt := top 71
abbrev s_l_bad_words : Stmt := top 72
abbrev s_l_good_letters : Stmt := top 73
abbrev s_l_due : Stmt := top 74
abbrev s_law : Stmt := top 75
theorem sc_WayError_init : FnScope ["self", "value"] ["self", "value"] (defScope s_WayError_init) := ⟨rfl, rfl, rfl, by decide +kernel, rfl, by decide +kernel, by decide +kernel⟩
theorem sc_is_integer : FnScope ["value"] ["value"] (defScope s_is_integer) := ⟨rfl, rfl, rfl, by decide +kernel, rfl, by decide +kernel, by decide +kernel⟩
theorem sc_is_letters : FnScope ["value", "letter"] ["value"] (defScope s_is_letters) := ⟨rfl, rfl, rfl, by decide +kernel, rfl, by decide +kernel, by decide +kernel⟩
theorem sc_is_word : FnScope ["thing"] ["thing"] (defScope s_is_word) := ⟨rfl, rfl, rfl, by decide +kernel, rfl, by decide +kernel, by decide +kernel⟩
theorem sc_is_watch : FnScope ["thing"] ["thing"] (defScope s_is_watch) := ⟨rfl, rfl, rfl, by decide +kernel, rfl, by decide +kernel, by decide +kernel⟩
theorem sc_text_key : FnScope ["text"] ["text"] (defScope s_text_key) := ⟨rfl, rfl, rfl, by decide +kernel, rfl, by decide +kernel, by decide +kernel⟩
theorem sc_row_key : FnScope ["row", "text"] ["row"] (defScope s_row_key) := ⟨rfl, rfl, rfl, by decide +kernel, rfl, by decide +kernel, by decide +kernel⟩
theorem sc_in_order : FnScope ["texts"] ["texts"] (defScope s_in_order) := ⟨rfl, rfl, rfl, by decide +kernel, rfl, by decide +kernel, by decide +kernel⟩
theorem sc_Book_init : FnScope ["self", "watches", "found", "at", "watch"] ["self", "watches"] (defScope s_Book_init) := ⟨rfl, rfl, rfl, by decide +kernel, rfl, by decide +kernel, by decide +kernel⟩
theorem sc_check_book : FnScope ["book"] ["book"] (defScope s_check_book) := ⟨rfl, rfl, rfl, by decide +kernel, rfl, by decide +kernel, by decide +kernel⟩
theorem sc_ordered_watches : FnScope ["book"] ["book"] (defScope s_ordered_watches) := ⟨rfl, rfl, rfl, by decide +kernel, rfl, by decide +kernel, by decide +kernel⟩
theorem sc_links_of : FnScope ["watches", "word", "spot", "found", "watch", "row"] ["watches", "word"] (defScope s_links_of) := ⟨rfl, rfl, rfl, by decide +kernel, rfl, by decide +kernel, by decide +kernel⟩
theorem sc_grown : FnScope ["links", "spots", "found", "at", "spot"] ["links", "spots"] (defScope s_grown) := ⟨rfl, rfl, rfl, by decide +kernel, rfl, by decide +kernel, by decide +kernel⟩
theorem sc_leads : FnScope ["watches", "word"] ["watches", "word"] (defScope s_leads) := ⟨rfl, rfl, rfl, by decide +kernel, rfl, by decide +kernel, by decide +kernel⟩
theorem sc_distances : FnScope ["links", "found", "row", "later", "spot", "other"] ["links"] (defScope s_distances) := ⟨rfl, rfl, rfl, by decide +kernel, rfl, by decide +kernel, by decide +kernel⟩
theorem sc_shortest : FnScope ["watches", "word", "links", "far", "found", "spot", "other"] ["watches", "word"] (defScope s_shortest) := ⟨rfl, rfl, rfl, by decide +kernel, rfl, by decide +kernel, by decide +kernel⟩
theorem sc_steps_between : FnScope ["word", "spots", "steps", "one", "other"] ["word", "spots"] (defScope s_steps_between) := ⟨rfl, rfl, rfl, by decide +kernel, rfl, by decide +kernel, by decide +kernel⟩
theorem sc_rule_by : FnScope ["watches", "word", "spots"] ["watches", "word"] (defScope s_rule_by) := ⟨rfl, rfl, rfl, by decide +kernel, rfl, by decide +kernel, by decide +kernel⟩
theorem sc_check_words : FnScope ["words", "at", "word"] ["words"] (defScope s_check_words) := ⟨rfl, rfl, rfl, by decide +kernel, rfl, by decide +kernel, by decide +kernel⟩
theorem sc_leads_all : FnScope ["watches", "words", "word"] ["watches", "words"] (defScope s_leads_all) := ⟨rfl, rfl, rfl, by decide +kernel, rfl, by decide +kernel, by decide +kernel⟩
theorem sc_tells : FnScope ["book", "words"] ["book", "words"] (defScope s_tells) := ⟨rfl, rfl, rfl, by decide +kernel, rfl, by decide +kernel, by decide +kernel⟩
theorem sc_tells_book : FnScope ["one", "other"] ["one", "other"] (defScope s_tells_book) := ⟨rfl, rfl, rfl, by decide +kernel, rfl, by decide +kernel, by decide +kernel⟩
theorem sc_rules_for : FnScope ["one", "other", "rules", "watch", "steps"] ["one", "other"] (defScope s_rules_for) := ⟨rfl, rfl, rfl, by decide +kernel, rfl, by decide +kernel, by decide +kernel⟩
theorem sc_needless : FnScope ["book", "found", "watch", "other"] ["book"] (defScope s_needless) := ⟨rfl, rfl, rfl, by decide +kernel, rfl, by decide +kernel, by decide +kernel⟩
theorem sc_told_words : FnScope ["book", "letters", "most", "found", "words", "size", "word", "letter"] ["book", "letters", "most"] (defScope s_told_words) := ⟨rfl, rfl, rfl, by decide +kernel, rfl, by decide +kernel, by decide +kernel⟩
theorem sc_masks_by_size : FnScope ["many", "rows", "mask", "size", "row", "at"] ["many"] (defScope s_masks_by_size) := ⟨rfl, rfl, rfl, by decide +kernel, rfl, by decide +kernel, by decide +kernel⟩
theorem sc_chosen : FnScope ["things", "mask", "at", "thing"] ["things", "mask"] (defScope s_chosen) := ⟨rfl, rfl, rfl, by decide +kernel, rfl, by decide +kernel, by decide +kernel⟩
theorem sc_least_masks : FnScope ["many", "works", "found", "mask", "kept"] ["many", "works"] (defScope s_least_masks) := ⟨rfl, rfl, rfl, by decide +kernel, rfl, by decide +kernel, by decide +kernel⟩
theorem sc_greatest_masks : FnScope ["many", "works", "found", "mask", "kept"] ["many", "works"] (defScope s_greatest_masks) := ⟨rfl, rfl, rfl, by decide +kernel, rfl, by decide +kernel, by decide +kernel⟩
theorem sc_check_few : FnScope ["book", "words"] ["book", "words"] (defScope s_check_few) := ⟨rfl, rfl, rfl, by decide +kernel, rfl, by decide +kernel, by decide +kernel⟩
theorem sc_as_lots : FnScope ["things", "masks", "mask"] ["things", "masks"] (defScope s_as_lots) := ⟨rfl, rfl, rfl, by decide +kernel, rfl, by decide +kernel, by decide +kernel⟩
theorem sc_least_lots : FnScope ["book", "words", "masks", "things", "mask"] ["book", "words"] (defScope s_least_lots) := ⟨rfl, rfl, rfl, by decide +kernel, rfl, by decide +kernel, by decide +kernel⟩
theorem sc_unable_lots : FnScope ["book", "words", "masks", "things", "mask"] ["book", "words"] (defScope s_unable_lots) := ⟨rfl, rfl, rfl, by decide +kernel, rfl, by decide +kernel, by decide +kernel⟩
theorem sc_is_sublot : FnScope ["things", "thing", "watch"] ["things", "thing"] (defScope s_is_sublot) := ⟨rfl, rfl, rfl, by decide +kernel, rfl, by decide +kernel, by decide +kernel⟩
theorem sc_is_least_lot : FnScope ["book", "words", "thing", "watch", "kept"] ["book", "words", "thing"] (defScope s_is_least_lot) := ⟨rfl, rfl, rfl, by decide +kernel, rfl, by decide +kernel, by decide +kernel⟩
theorem sc_is_unable_lot : FnScope ["book", "words", "thing", "things", "watch"] ["book", "words", "thing"] (defScope s_is_unable_lot) := ⟨rfl, rfl, rfl, by decide +kernel, rfl, by decide +kernel, by decide +kernel⟩
theorem sc_l_tape : FnScope ["_law_script"] ["_law_script"] (defScope s_l_tape) := ⟨rfl, rfl, rfl, by decide +kernel, rfl, by decide +kernel, by decide +kernel⟩
theorem sc_l_pick : FnScope ["_law_tape_here", "_law_size", "_law_digit", "_law_cell", "_law_mixed"] ["_law_tape_here", "_law_size"] (defScope s_l_pick) := ⟨rfl, rfl, rfl, by decide +kernel, rfl, by decide +kernel, by decide +kernel⟩
theorem sc_l_letters : FnScope ["_law_tape_here", "_law_letters_here", "_law_start", "_law_step", "_law_found", "_law_k"] ["_law_tape_here"] (defScope s_l_letters) := ⟨rfl, rfl, rfl, by decide +kernel, rfl, by decide +kernel, by decide +kernel⟩
theorem sc_l_word : FnScope ["_law_tape_here", "_law_letters_here", "_law_least", "_law_most", "_law_word_here", "_law_k"] ["_law_tape_here", "_law_letters_here", "_law_least", "_law_most"] (defScope s_l_word) := ⟨rfl, rfl, rfl, by decide +kernel, rfl, by decide +kernel, by decide +kernel⟩
theorem sc_l_piece : FnScope ["_law_tape_here", "_law_word_here", "_law_start", "_law_size"] ["_law_tape_here", "_law_word_here"] (defScope s_l_piece) := ⟨rfl, rfl, rfl, by decide +kernel, rfl, by decide +kernel, by decide +kernel⟩
theorem sc_l_pathed : FnScope ["_law_tape_here", "_law_word_here", "_law_watches_here", "_law_spot", "_law_k", "_law_other", "_law_watch"] ["_law_tape_here", "_law_word_here"] (defScope s_l_pathed) := ⟨rfl, rfl, rfl, by decide +kernel, rfl, by decide +kernel, by decide +kernel⟩
theorem sc_l_watches : FnScope ["_law_tape_here", "_law_word_here", "_law_letters_here", "_law_most", "_law_kind", "_law_watches_here", "_law_k", "_law_watch"] ["_law_tape_here", "_law_word_here", "_law_letters_here", "_law_most"] (defScope s_l_watches) := ⟨rfl, rfl, rfl, by decide +kernel, rfl, by decide +kernel, by decide +kernel⟩
theorem sc_l_odd : FnScope ["_law_tape_here", "_law_things"] ["_law_tape_here"] (defScope s_l_odd) := ⟨rfl, rfl, rfl, by decide +kernel, rfl, by decide +kernel, by decide +kernel⟩
theorem sc_l_is_word : FnScope ["_law_thing", "_law_most", "_law_letter"] ["_law_thing", "_law_most"] (defScope s_l_is_word) := ⟨rfl, rfl, rfl, by decide +kernel, rfl, by decide +kernel, by decide +kernel⟩
theorem sc_l_asked : FnScope ["_law_kind", "_law_book", "_law_thing", "_law_more"] ["_law_kind", "_law_book", "_law_thing", "_law_more"] (defScope s_l_asked) := ⟨rfl, rfl, rfl, by decide +kernel, rfl, by decide +kernel, by decide +kernel⟩
theorem sc_l_tried : FnScope ["_law_kind", "_law_book", "_law_thing", "_law_more", "_law_found", "e", "_law_kinds"] ["_law_kind", "_law_book", "_law_thing", "_law_more"] (defScope s_l_tried) := ⟨rfl, rfl, rfl, by decide +kernel, rfl, by decide +kernel, by decide +kernel⟩
theorem sc_l_fault : FnScope ["_law_words", "_law_at"] ["_law_words"] (defScope s_l_fault) := ⟨rfl, rfl, rfl, by decide +kernel, rfl, by decide +kernel, by decide +kernel⟩
theorem sc_l_bad_words : FnScope ["_law_tape_here", "_law_words", "_law_kind", "_law_at", "_law_made"] ["_law_tape_here", "_law_words"] (defScope s_l_bad_words) := ⟨rfl, rfl, rfl, by decide +kernel, rfl, by decide +kernel, by decide +kernel⟩
theorem sc_l_good_letters : FnScope ["_law_thing", "_law_at"] ["_law_thing"] (defScope s_l_good_letters) := ⟨rfl, rfl, rfl, by decide +kernel, rfl, by decide +kernel, by decide +kernel⟩
theorem sc_l_due : FnScope ["_law_kind", "_law_book", "_law_thing", "_law_more", "_law_fault_here"] ["_law_kind", "_law_book", "_law_thing", "_law_more"] (defScope s_l_due) := ⟨rfl, rfl, rfl, by decide +kernel, rfl, by decide +kernel, by decide +kernel⟩
theorem sc_law : FnScope ["_law_script", "_law_tape_here", "_law_great", "_law_spoil", "_law_letters_here", "_law_word_here", "_law_watches_here", "_law_words", "_law_book", "_law_other", "_law_most", "_law_kept", "_law_kind", "_law_thing", "_law_more", "_law_due_here", "_law_found", "_law_k"] ["_law_script"] (defScope s_law) := ⟨rfl, rfl, rfl, by decide +kernel, rfl, by decide +kernel, by decide +kernel⟩
structure Txt (K : PySem.W.Frag) (mg : Str → Option Value) where
  C_Book : Addr
  c_Book : mg "Book" = some (.ref C_Book)
  cl_Book : Cls K C_Book
  ty_Book : OwnTy K C_Book
  na_Book_watches : NoAttr K C_Book "watches"
  ki_Book : PySem.W.mroIn K C_Book (.type "int") = some false
  kb_Book : PySem.W.mroIn K C_Book (.type "bool") = some false
  ic_Book : PySem.W.isClsIn K C_Book = true
  tc_Book : PySem.W.typeIn K (.ref C_Book) = some (.type "type")
  sl_Book : PySem.W.subIn K (.ref C_Book) (.ref C_Book) = some true
  ks_Book : PySem.W.mroIn K C_Book (.type "str") = some false
  f_WayError_init : Addr
  fd_WayError_init : FuncData
  D_WayError_init : FunD K "__init__" "WayError.__init__" (defArgs s_WayError_init) (defBody s_WayError_init) (defScope s_WayError_init) [.non] [] f_WayError_init fd_WayError_init
  b_WayError_init : Binds K fd_WayError_init ["self", "value"] []
  tI_WayError_init : PySem.W.typeIn K (.ref f_WayError_init) = some (.type "function")
  ds_WayError_init : List Value
  rd_WayError_init : Vals [.non] ds_WayError_init
  b1_WayError_init : Binds K fd_WayError_init ["self", "value"] ds_WayError_init
  f_is_integer : Addr
  fd_is_integer : FuncData
  F_is_integer : Fun K "is_integer" "is_integer" s_is_integer f_is_integer fd_is_integer
  g_is_integer : mg "is_integer" = some (.ref f_is_integer)
  b_is_integer : Binds K fd_is_integer ["value"] []
  f_is_letters : Addr
  fd_is_letters : FuncData
  F_is_letters : Fun K "is_letters" "is_letters" s_is_letters f_is_letters fd_is_letters
  g_is_letters : mg "is_letters" = some (.ref f_is_letters)
  b_is_letters : Binds K fd_is_letters ["value"] []
  f_is_word : Addr
  fd_is_word : FuncData
  F_is_word : Fun K "is_word" "is_word" s_is_word f_is_word fd_is_word
  g_is_word : mg "is_word" = some (.ref f_is_word)
  b_is_word : Binds K fd_is_word ["thing"] []
  f_is_watch : Addr
  fd_is_watch : FuncData
  F_is_watch : Fun K "is_watch" "is_watch" s_is_watch f_is_watch fd_is_watch
  g_is_watch : mg "is_watch" = some (.ref f_is_watch)
  b_is_watch : Binds K fd_is_watch ["thing"] []
  f_text_key : Addr
  fd_text_key : FuncData
  F_text_key : Fun K "text_key" "text_key" s_text_key f_text_key fd_text_key
  g_text_key : mg "text_key" = some (.ref f_text_key)
  b_text_key : Binds K fd_text_key ["text"] []
  f_row_key : Addr
  fd_row_key : FuncData
  F_row_key : Fun K "row_key" "row_key" s_row_key f_row_key fd_row_key
  g_row_key : mg "row_key" = some (.ref f_row_key)
  b_row_key : Binds K fd_row_key ["row"] []
  f_in_order : Addr
  fd_in_order : FuncData
  F_in_order : Fun K "in_order" "in_order" s_in_order f_in_order fd_in_order
  g_in_order : mg "in_order" = some (.ref f_in_order)
  b_in_order : Binds K fd_in_order ["texts"] []
  f_Book_init : Addr
  fd_Book_init : FuncData
  F_Book_init : Fun K "__init__" "Book.__init__" s_Book_init f_Book_init fd_Book_init
  M_Book : Mk K C_Book f_Book_init
  b_Book_init : Binds K fd_Book_init ["self", "watches"] []
  f_check_book : Addr
  fd_check_book : FuncData
  F_check_book : Fun K "check_book" "check_book" s_check_book f_check_book fd_check_book
  g_check_book : mg "check_book" = some (.ref f_check_book)
  b_check_book : Binds K fd_check_book ["book"] []
  f_ordered_watches : Addr
  fd_ordered_watches : FuncData
  F_ordered_watches : Fun K "ordered_watches" "ordered_watches" s_ordered_watches f_ordered_watches fd_ordered_watches
  g_ordered_watches : mg "ordered_watches" = some (.ref f_ordered_watches)
  b_ordered_watches : Binds K fd_ordered_watches ["book"] []
  f_links_of : Addr
  fd_links_of : FuncData
  F_links_of : Fun K "links_of" "links_of" s_links_of f_links_of fd_links_of
  g_links_of : mg "links_of" = some (.ref f_links_of)
  b_links_of : Binds K fd_links_of ["watches", "word"] []
  f_grown : Addr
  fd_grown : FuncData
  F_grown : Fun K "grown" "grown" s_grown f_grown fd_grown
  g_grown : mg "grown" = some (.ref f_grown)
  b_grown : Binds K fd_grown ["links", "spots"] []
  f_leads : Addr
  fd_leads : FuncData
  F_leads : Fun K "leads" "leads" s_leads f_leads fd_leads
  g_leads : mg "leads" = some (.ref f_leads)
  b_leads : Binds K fd_leads ["watches", "word"] []
  f_distances : Addr
  fd_distances : FuncData
  F_distances : Fun K "distances" "distances" s_distances f_distances fd_distances
  g_distances : mg "distances" = some (.ref f_distances)
  b_distances : Binds K fd_distances ["links"] []
  f_shortest : Addr
  fd_shortest : FuncData
  F_shortest : Fun K "shortest" "shortest" s_shortest f_shortest fd_shortest
  g_shortest : mg "shortest" = some (.ref f_shortest)
  b_shortest : Binds K fd_shortest ["watches", "word"] []
  f_steps_between : Addr
  fd_steps_between : FuncData
  F_steps_between : Fun K "steps_between" "steps_between" s_steps_between f_steps_between fd_steps_between
  g_steps_between : mg "steps_between" = some (.ref f_steps_between)
  b_steps_between : Binds K fd_steps_between ["word", "spots"] []
  f_rule_by : Addr
  fd_rule_by : FuncData
  F_rule_by : Fun K "rule_by" "rule_by" s_rule_by f_rule_by fd_rule_by
  g_rule_by : mg "rule_by" = some (.ref f_rule_by)
  b_rule_by : Binds K fd_rule_by ["watches", "word"] []
  f_check_words : Addr
  fd_check_words : FuncData
  F_check_words : Fun K "check_words" "check_words" s_check_words f_check_words fd_check_words
  g_check_words : mg "check_words" = some (.ref f_check_words)
  b_check_words : Binds K fd_check_words ["words"] []
  f_leads_all : Addr
  fd_leads_all : FuncData
  F_leads_all : Fun K "leads_all" "leads_all" s_leads_all f_leads_all fd_leads_all
  g_leads_all : mg "leads_all" = some (.ref f_leads_all)
  b_leads_all : Binds K fd_leads_all ["watches", "words"] []
  f_tells : Addr
  fd_tells : FuncData
  F_tells : Fun K "tells" "tells" s_tells f_tells fd_tells
  g_tells : mg "tells" = some (.ref f_tells)
  b_tells : Binds K fd_tells ["book", "words"] []
  f_tells_book : Addr
  fd_tells_book : FuncData
  F_tells_book : Fun K "tells_book" "tells_book" s_tells_book f_tells_book fd_tells_book
  g_tells_book : mg "tells_book" = some (.ref f_tells_book)
  b_tells_book : Binds K fd_tells_book ["one", "other"] []
  f_rules_for : Addr
  fd_rules_for : FuncData
  F_rules_for : Fun K "rules_for" "rules_for" s_rules_for f_rules_for fd_rules_for
  g_rules_for : mg "rules_for" = some (.ref f_rules_for)
  b_rules_for : Binds K fd_rules_for ["one", "other"] []
  f_needless : Addr
  fd_needless : FuncData
  F_needless : Fun K "needless" "needless" s_needless f_needless fd_needless
  g_needless : mg "needless" = some (.ref f_needless)
  b_needless : Binds K fd_needless ["book"] []
  f_told_words : Addr
  fd_told_words : FuncData
  F_told_words : Fun K "told_words" "told_words" s_told_words f_told_words fd_told_words
  g_told_words : mg "told_words" = some (.ref f_told_words)
  b_told_words : Binds K fd_told_words ["book", "letters", "most"] []
  f_masks_by_size : Addr
  fd_masks_by_size : FuncData
  F_masks_by_size : Fun K "masks_by_size" "masks_by_size" s_masks_by_size f_masks_by_size fd_masks_by_size
  g_masks_by_size : mg "masks_by_size" = some (.ref f_masks_by_size)
  b_masks_by_size : Binds K fd_masks_by_size ["many"] []
  f_chosen : Addr
  fd_chosen : FuncData
  F_chosen : Fun K "chosen" "chosen" s_chosen f_chosen fd_chosen
  g_chosen : mg "chosen" = some (.ref f_chosen)
  b_chosen : Binds K fd_chosen ["things", "mask"] []
  f_least_masks : Addr
  fd_least_masks : FuncData
  F_least_masks : Fun K "least_masks" "least_masks" s_least_masks f_least_masks fd_least_masks
  g_least_masks : mg "least_masks" = some (.ref f_least_masks)
  b_least_masks : Binds K fd_least_masks ["many", "works"] []
  f_greatest_masks : Addr
  fd_greatest_masks : FuncData
  F_greatest_masks : Fun K "greatest_masks" "greatest_masks" s_greatest_masks f_greatest_masks fd_greatest_masks
  g_greatest_masks : mg "greatest_masks" = some (.ref f_greatest_masks)
  b_greatest_masks : Binds K fd_greatest_masks ["many", "works"] []
  f_check_few : Addr
  fd_check_few : FuncData
  F_check_few : Fun K "check_few" "check_few" s_check_few f_check_few fd_check_few
  g_check_few : mg "check_few" = some (.ref f_check_few)
  b_check_few : Binds K fd_check_few ["book", "words"] []
  f_as_lots : Addr
  fd_as_lots : FuncData
  F_as_lots : Fun K "as_lots" "as_lots" s_as_lots f_as_lots fd_as_lots
  g_as_lots : mg "as_lots" = some (.ref f_as_lots)
  b_as_lots : Binds K fd_as_lots ["things", "masks"] []
  f_least_lots : Addr
  fd_least_lots : FuncData
  F_least_lots : Fun K "least_lots" "least_lots" s_least_lots f_least_lots fd_least_lots
  g_least_lots : mg "least_lots" = some (.ref f_least_lots)
  b_least_lots : Binds K fd_least_lots ["book", "words"] []
  f_unable_lots : Addr
  fd_unable_lots : FuncData
  F_unable_lots : Fun K "unable_lots" "unable_lots" s_unable_lots f_unable_lots fd_unable_lots
  g_unable_lots : mg "unable_lots" = some (.ref f_unable_lots)
  b_unable_lots : Binds K fd_unable_lots ["book", "words"] []
  f_is_sublot : Addr
  fd_is_sublot : FuncData
  F_is_sublot : Fun K "is_sublot" "is_sublot" s_is_sublot f_is_sublot fd_is_sublot
  g_is_sublot : mg "is_sublot" = some (.ref f_is_sublot)
  b_is_sublot : Binds K fd_is_sublot ["things", "thing"] []
  f_is_least_lot : Addr
  fd_is_least_lot : FuncData
  F_is_least_lot : Fun K "is_least_lot" "is_least_lot" s_is_least_lot f_is_least_lot fd_is_least_lot
  g_is_least_lot : mg "is_least_lot" = some (.ref f_is_least_lot)
  b_is_least_lot : Binds K fd_is_least_lot ["book", "words", "thing"] []
  f_is_unable_lot : Addr
  fd_is_unable_lot : FuncData
  F_is_unable_lot : Fun K "is_unable_lot" "is_unable_lot" s_is_unable_lot f_is_unable_lot fd_is_unable_lot
  g_is_unable_lot : mg "is_unable_lot" = some (.ref f_is_unable_lot)
  b_is_unable_lot : Binds K fd_is_unable_lot ["book", "words", "thing"] []
  f_l_tape : Addr
  fd_l_tape : FuncData
  F_l_tape : Fun K "_law_tape" "_law_tape" s_l_tape f_l_tape fd_l_tape
  g_l_tape : mg "_law_tape" = some (.ref f_l_tape)
  b_l_tape : Binds K fd_l_tape ["_law_script"] []
  f_l_pick : Addr
  fd_l_pick : FuncData
  F_l_pick : Fun K "_law_pick" "_law_pick" s_l_pick f_l_pick fd_l_pick
  g_l_pick : mg "_law_pick" = some (.ref f_l_pick)
  b_l_pick : Binds K fd_l_pick ["_law_tape_here", "_law_size"] []
  f_l_letters : Addr
  fd_l_letters : FuncData
  F_l_letters : Fun K "_law_letters" "_law_letters" s_l_letters f_l_letters fd_l_letters
  g_l_letters : mg "_law_letters" = some (.ref f_l_letters)
  b_l_letters : Binds K fd_l_letters ["_law_tape_here"] []
  f_l_word : Addr
  fd_l_word : FuncData
  F_l_word : Fun K "_law_word" "_law_word" s_l_word f_l_word fd_l_word
  g_l_word : mg "_law_word" = some (.ref f_l_word)
  b_l_word : Binds K fd_l_word ["_law_tape_here", "_law_letters_here", "_law_least", "_law_most"] []
  f_l_piece : Addr
  fd_l_piece : FuncData
  F_l_piece : Fun K "_law_piece" "_law_piece" s_l_piece f_l_piece fd_l_piece
  g_l_piece : mg "_law_piece" = some (.ref f_l_piece)
  b_l_piece : Binds K fd_l_piece ["_law_tape_here", "_law_word_here"] []
  f_l_pathed : Addr
  fd_l_pathed : FuncData
  F_l_pathed : Fun K "_law_pathed" "_law_pathed" s_l_pathed f_l_pathed fd_l_pathed
  g_l_pathed : mg "_law_pathed" = some (.ref f_l_pathed)
  b_l_pathed : Binds K fd_l_pathed ["_law_tape_here", "_law_word_here"] []
  f_l_watches : Addr
  fd_l_watches : FuncData
  F_l_watches : Fun K "_law_watches" "_law_watches" s_l_watches f_l_watches fd_l_watches
  g_l_watches : mg "_law_watches" = some (.ref f_l_watches)
  b_l_watches : Binds K fd_l_watches ["_law_tape_here", "_law_word_here", "_law_letters_here", "_law_most"] []
  f_l_odd : Addr
  fd_l_odd : FuncData
  F_l_odd : Fun K "_law_odd" "_law_odd" s_l_odd f_l_odd fd_l_odd
  g_l_odd : mg "_law_odd" = some (.ref f_l_odd)
  b_l_odd : Binds K fd_l_odd ["_law_tape_here"] []
  f_l_is_word : Addr
  fd_l_is_word : FuncData
  F_l_is_word : Fun K "_law_is_word" "_law_is_word" s_l_is_word f_l_is_word fd_l_is_word
  g_l_is_word : mg "_law_is_word" = some (.ref f_l_is_word)
  b_l_is_word : Binds K fd_l_is_word ["_law_thing", "_law_most"] []
  f_l_asked : Addr
  fd_l_asked : FuncData
  F_l_asked : Fun K "_law_asked" "_law_asked" s_l_asked f_l_asked fd_l_asked
  g_l_asked : mg "_law_asked" = some (.ref f_l_asked)
  b_l_asked : Binds K fd_l_asked ["_law_kind", "_law_book", "_law_thing", "_law_more"] []
  f_l_tried : Addr
  fd_l_tried : FuncData
  F_l_tried : Fun K "_law_tried" "_law_tried" s_l_tried f_l_tried fd_l_tried
  g_l_tried : mg "_law_tried" = some (.ref f_l_tried)
  b_l_tried : Binds K fd_l_tried ["_law_kind", "_law_book", "_law_thing", "_law_more"] []
  f_l_fault : Addr
  fd_l_fault : FuncData
  F_l_fault : Fun K "_law_fault" "_law_fault" s_l_fault f_l_fault fd_l_fault
  g_l_fault : mg "_law_fault" = some (.ref f_l_fault)
  b_l_fault : Binds K fd_l_fault ["_law_words"] []
  f_l_bad_words : Addr
  fd_l_bad_words : FuncData
  F_l_bad_words : Fun K "_law_bad_words" "_law_bad_words" s_l_bad_words f_l_bad_words fd_l_bad_words
  g_l_bad_words : mg "_law_bad_words" = some (.ref f_l_bad_words)
  b_l_bad_words : Binds K fd_l_bad_words ["_law_tape_here", "_law_words"] []
  f_l_good_letters : Addr
  fd_l_good_letters : FuncData
  F_l_good_letters : Fun K "_law_good_letters" "_law_good_letters" s_l_good_letters f_l_good_letters fd_l_good_letters
  g_l_good_letters : mg "_law_good_letters" = some (.ref f_l_good_letters)
  b_l_good_letters : Binds K fd_l_good_letters ["_law_thing"] []
  f_l_due : Addr
  fd_l_due : FuncData
  F_l_due : Fun K "_law_due" "_law_due" s_l_due f_l_due fd_l_due
  g_l_due : mg "_law_due" = some (.ref f_l_due)
  b_l_due : Binds K fd_l_due ["_law_kind", "_law_book", "_law_thing", "_law_more"] []
  f_law : Addr
  fd_law : FuncData
  F_law : Fun K "law" "law" s_law f_law fd_law
  g_law : mg "law" = some (.ref f_law)
  b_law : Binds K fd_law ["_law_script"] []
  cc_least_lots : Addr
  pp_least_lots : Addr
  cd_least_lots : fd_least_lots.code = .ref cc_least_lots
  cc_unable_lots : Addr
  pp_unable_lots : Addr
  cd_unable_lots : fd_unable_lots.code = .ref cc_unable_lots
  pq_least_lots_unable_lots : pp_least_lots ≠ pp_unable_lots
  C_BadWatches : Addr
  c_BadWatches : mg "BadWatches" = some (.ref C_BadWatches)
  X_BadWatches : Rx.ExcF K f_WayError_init C_BadWatches
  C_BadBook : Addr
  c_BadBook : mg "BadBook" = some (.ref C_BadBook)
  X_BadBook : Rx.ExcF K f_WayError_init C_BadBook
  C_BadWords : Addr
  c_BadWords : mg "BadWords" = some (.ref C_BadWords)
  X_BadWords : Rx.ExcF K f_WayError_init C_BadWords
  C_BadLetters : Addr
  c_BadLetters : mg "BadLetters" = some (.ref C_BadLetters)
  X_BadLetters : Rx.ExcF K f_WayError_init C_BadLetters
  C_BadMost : Addr
  c_BadMost : mg "BadMost" = some (.ref C_BadMost)
  X_BadMost : Rx.ExcF K f_WayError_init C_BadMost
  C_TooMany : Addr
  c_TooMany : mg "TooMany" = some (.ref C_TooMany)
  X_TooMany : Rx.ExcF K f_WayError_init C_TooMany
  C_WayError : Addr
  c_WayError : mg "WayError" = some (.ref C_WayError)
  X_WayError : Rx.ExcF K f_WayError_init C_WayError
  C_BadWord : Addr
  c_BadWord : mg "BadWord" = some (.ref C_BadWord)
  X_BadWord : Rx.ExcF K f_WayError_init C_BadWord
  s_BadWatches_WayError : PySem.W.subIn K (.ref C_BadWatches) (.ref C_WayError) = some true
  s_BadWatches_BadBook : PySem.W.subIn K (.ref C_BadWatches) (.ref C_BadBook) = some false
  s_BadWatches_BadWords : PySem.W.subIn K (.ref C_BadWatches) (.ref C_BadWords) = some false
  s_BadWatches_BadLetters : PySem.W.subIn K (.ref C_BadWatches) (.ref C_BadLetters) = some false
  s_BadWatches_BadMost : PySem.W.subIn K (.ref C_BadWatches) (.ref C_BadMost) = some false
  s_BadWatches_TooMany : PySem.W.subIn K (.ref C_BadWatches) (.ref C_TooMany) = some false
  s_BadWatches_BadWord : PySem.W.subIn K (.ref C_BadWatches) (.ref C_BadWord) = some false
  s_BadBook_WayError : PySem.W.subIn K (.ref C_BadBook) (.ref C_WayError) = some true
  s_BadBook_BadBook : PySem.W.subIn K (.ref C_BadBook) (.ref C_BadBook) = some true
  s_BadBook_BadWords : PySem.W.subIn K (.ref C_BadBook) (.ref C_BadWords) = some false
  s_BadBook_BadLetters : PySem.W.subIn K (.ref C_BadBook) (.ref C_BadLetters) = some false
  s_BadBook_BadMost : PySem.W.subIn K (.ref C_BadBook) (.ref C_BadMost) = some false
  s_BadBook_TooMany : PySem.W.subIn K (.ref C_BadBook) (.ref C_TooMany) = some false
  s_BadBook_BadWord : PySem.W.subIn K (.ref C_BadBook) (.ref C_BadWord) = some false
  s_BadWords_WayError : PySem.W.subIn K (.ref C_BadWords) (.ref C_WayError) = some true
  s_BadWords_BadBook : PySem.W.subIn K (.ref C_BadWords) (.ref C_BadBook) = some false
  s_BadWords_BadWords : PySem.W.subIn K (.ref C_BadWords) (.ref C_BadWords) = some true
  s_BadWords_BadLetters : PySem.W.subIn K (.ref C_BadWords) (.ref C_BadLetters) = some false
  s_BadWords_BadMost : PySem.W.subIn K (.ref C_BadWords) (.ref C_BadMost) = some false
  s_BadWords_TooMany : PySem.W.subIn K (.ref C_BadWords) (.ref C_TooMany) = some false
  s_BadWords_BadWord : PySem.W.subIn K (.ref C_BadWords) (.ref C_BadWord) = some false
  s_BadLetters_WayError : PySem.W.subIn K (.ref C_BadLetters) (.ref C_WayError) = some true
  s_BadLetters_BadBook : PySem.W.subIn K (.ref C_BadLetters) (.ref C_BadBook) = some false
  s_BadLetters_BadWords : PySem.W.subIn K (.ref C_BadLetters) (.ref C_BadWords) = some false
  s_BadLetters_BadLetters : PySem.W.subIn K (.ref C_BadLetters) (.ref C_BadLetters) = some true
  s_BadLetters_BadMost : PySem.W.subIn K (.ref C_BadLetters) (.ref C_BadMost) = some false
  s_BadLetters_TooMany : PySem.W.subIn K (.ref C_BadLetters) (.ref C_TooMany) = some false
  s_BadLetters_BadWord : PySem.W.subIn K (.ref C_BadLetters) (.ref C_BadWord) = some false
  s_BadMost_WayError : PySem.W.subIn K (.ref C_BadMost) (.ref C_WayError) = some true
  s_BadMost_BadBook : PySem.W.subIn K (.ref C_BadMost) (.ref C_BadBook) = some false
  s_BadMost_BadWords : PySem.W.subIn K (.ref C_BadMost) (.ref C_BadWords) = some false
  s_BadMost_BadLetters : PySem.W.subIn K (.ref C_BadMost) (.ref C_BadLetters) = some false
  s_BadMost_BadMost : PySem.W.subIn K (.ref C_BadMost) (.ref C_BadMost) = some true
  s_BadMost_TooMany : PySem.W.subIn K (.ref C_BadMost) (.ref C_TooMany) = some false
  s_BadMost_BadWord : PySem.W.subIn K (.ref C_BadMost) (.ref C_BadWord) = some false
  s_TooMany_WayError : PySem.W.subIn K (.ref C_TooMany) (.ref C_WayError) = some true
  s_TooMany_BadBook : PySem.W.subIn K (.ref C_TooMany) (.ref C_BadBook) = some false
  s_TooMany_BadWords : PySem.W.subIn K (.ref C_TooMany) (.ref C_BadWords) = some false
  s_TooMany_BadLetters : PySem.W.subIn K (.ref C_TooMany) (.ref C_BadLetters) = some false
  s_TooMany_BadMost : PySem.W.subIn K (.ref C_TooMany) (.ref C_BadMost) = some false
  s_TooMany_TooMany : PySem.W.subIn K (.ref C_TooMany) (.ref C_TooMany) = some true
  s_TooMany_BadWord : PySem.W.subIn K (.ref C_TooMany) (.ref C_BadWord) = some false
  n_isinstance : mg "isinstance" = none
  n_int : mg "int" = none
  n_bool : mg "bool" = none
  n_str : mg "str" = none
  n_all : mg "all" = none
  n_len : mg "len" = none
  n_sorted : mg "sorted" = none
  n_enumerate : mg "enumerate" = none
  n_tuple : mg "tuple" = none
  n_list : mg "list" = none
  n_range : mg "range" = none
  n_zip : mg "zip" = none
  n_set : mg "set" = none
  n_sum : mg "sum" = none
  n_any : mg "any" = none
  n_min : mg "min" = none
  n_max : mg "max" = none
  n_repr : mg "repr" = none
  t_LETTERS : Tok
  m_LETTERS : mg "LETTERS" = some (.str "abcdefghijklmnopqrstuvwxyz" t_LETTERS)
  t_MOST_WORD : Tok
  m_MOST_WORD : mg "MOST_WORD" = some (.int 40 t_MOST_WORD)
  t_MOST_WATCH : Tok
  m_MOST_WATCH : mg "MOST_WATCH" = some (.int 12 t_MOST_WATCH)
  t_MOST_WATCHES : Tok
  m_MOST_WATCHES : mg "MOST_WATCHES" = some (.int 12 t_MOST_WATCHES)
  t_MOST_WORDS : Tok
  m_MOST_WORDS : mg "MOST_WORDS" = some (.int 20 t_MOST_WORDS)
  t_MOST_LETTERS : Tok
  m_MOST_LETTERS : mg "MOST_LETTERS" = some (.int 3 t_MOST_LETTERS)
  t_MOST_SIZE : Tok
  m_MOST_SIZE : mg "MOST_SIZE" = some (.int 6 t_MOST_SIZE)
  t_MOST_TRIED : Tok
  m_MOST_TRIED : mg "MOST_TRIED" = some (.int 10 t_MOST_TRIED)
section
variable {w : World} {K : PySem.W.Frag} {mg : Str → Option Value}
def CS (T : Txt K mg) : List (Addr × Addr) := [(T.cc_least_lots, T.pp_least_lots), (T.cc_unable_lots, T.pp_unable_lots)]
def TT (T : Txt K mg) : List (Addr × Str) := [(T.pp_least_lots, ((PySem.Str.ofString "least_lots" ++ ".<locals>.") ++ "<lambda>")), (T.pp_unable_lots, ((PySem.Str.ofString "unable_lots" ++ ".<locals>.") ++ "<lambda>"))]
theorem hu_least_lots (T : Txt K mg) : ∀ p ∈ TT T, p.1 = T.pp_least_lots → p.2 = ((PySem.Str.ofString "least_lots" ++ ".<locals>.") ++ "<lambda>") := by
  intro p hp e
  simp only [TT, List.mem_cons, List.not_mem_nil, or_false] at hp
  rcases hp with rfl | rfl
  · exact rfl
  · exact absurd e.symm T.pq_least_lots_unable_lots
theorem hu_unable_lots (T : Txt K mg) : ∀ p ∈ TT T, p.1 = T.pp_unable_lots → p.2 = ((PySem.Str.ofString "unable_lots" ++ ".<locals>.") ++ "<lambda>") := by
  intro p hp e
  simp only [TT, List.mem_cons, List.not_mem_nil, or_false] at hp
  rcases hp with rfl | rfl
  · exact absurd e T.pq_least_lots_unable_lots
  · exact rfl
end
end W

local macro_rules | `(tactic| walk_at "rd") => `(tactic| repeat (first
  | with_reducible refine Rd.seq ?_ | with_reducible refine Rd.asg ?_ | with_reducible refine Rd.name ?_ | with_reducible refine Rd.var rfl ?_ | with_reducible refine Rd.con ?_ | with_reducible refine Rd.op ?_
  | with_reducible refine Rd.ret ?_ | with_reducible refine Rd.ifS ?_ | with_reducible refine Rd.test ?_ | with_reducible refine Rd.tstB ?_ | with_reducible refine Rd.bl ?_ | with_reducible refine Rd.blE ?_
  | with_reducible refine Rd.nil ?_ | with_reducible refine Rd.cons ?_ | with_reducible refine Rd.cb ?_ | with_reducible refine Rd.call ?_ | with_reducible refine Rd.un ?_
  | with_reducible refine Rd.i0 ?_ | with_reducible refine Rd.u1 ?_ | with_reducible refine Rd.eqI ?_ | with_reducible refine Rd.neI ?_ | with_reducible refine Rd.eqB ?_ | with_reducible refine Rd.neB ?_ | with_reducible refine Rd.eqS ?_ | with_reducible refine Rd.neS ?_
  | with_reducible refine Rd.and ?_ | with_reducible refine Rd.or ?_ | with_reducible refine Rd.not ?_ | with_reducible refine Rd.andV ?_ | with_reducible refine Rd.orV ?_ | with_reducible refine Rd.notV ?_ | with_reducible refine Rd.ifE ?_ | with_reducible refine Rd.chain ?_
  | with_reducible refine Rd.tup ?_ | with_reducible refine Rd.lst ?_ | with_reducible refine Rd.nxt ?_ | with_reducible refine Rd.retN ?_ | with_reducible refine Rd.drop ?_ | with_reducible refine Rd.brk ?_ | with_reducible refine Rd.cont ?_
  | with_reducible refine Rd.a1 ?_ | with_reducible refine Rd.a2 ?_ | with_reducible refine Rd.v2 ?_ | with_reducible refine Rd.int ?_ | with_reducible refine Rd.abs ?_ | with_reducible refine Rd.max2 ?_ | with_reducible refine Rd.min2 ?_ | with_reducible refine Rd.bm ?_ | with_reducible refine Rd.bm0 ?_ | with_reducible refine Rd.sl ?_ | with_reducible refine Rd.part ?_ | with_reducible refine Rd.noPart ?_ | with_reducible refine Rd.intE ?_ | with_reducible refine Rd.revL ?_ | with_reducible refine Rd.enx ?_ | with_reducible refine Rd.ebk ?_ | with_reducible refine Rd.ect ?_ | with_reducible refine Rd.ert ?_ | with_reducible refine Rd.gcons ?_ | with_reducible refine Rd.gnil ?_ | with_reducible refine Rd.par ?_ | with_reducible refine Rd.sub ?_ | with_reducible refine Rd.iter ?_ | with_reducible refine Rd.iterT ?_ | with_reducible refine Rd.rng1 ?_ | with_reducible refine Rd.refE ?_ | with_reducible refine Rd.aug rfl ?_ | with_reducible refine Rd.ipi ?_ | with_reducible refine Rd.lc ?_ | with_reducible refine Rd.tyes ?_ | with_reducible refine Rd.fldH ?_ | with_reducible refine Rd.sfldH ?_ | with_reducible refine Rd.mkH ?_ | with_reducible refine Rd.methH ?_ | with_reducible refine Rd.istr ?_ | with_reducible refine Rd.strE ?_ | with_reducible refine Rd.lstRg ?_ | with_reducible refine Rd.m1 ?_ | with_reducible refine Rd.dgetH ?_ | with_reducible refine Rd.dinH ?_ | with_reducible refine Rd.dninH ?_ | with_reducible refine Rd.dget1H ?_ | with_reducible refine Rd.strX ?_ | with_reducible refine Rd.tupRg ?_ | with_reducible refine Rd.rg1 ?_ | with_reducible refine Rd.rg2 ?_ | with_reducible refine Rd.intE2 ?_ | with_reducible refine Rw.zipH ?_ | with_reducible refine Rw.itemsH ?_ | with_reducible refine Rw.keysH ?_ | with_reducible refine Rw.dc ?_ | with_reducible refine Rw.ckw ?_ | with_reducible refine Rd.notT ?_ | with_reducible refine Rx.raiseH ?_ | with_reducible refine Rx.callS ?_ | with_reducible refine Rx.xvH ?_ | with_reducible refine Rx.rng3 ?_
  | with_reducible refine L2.iteT ?_ | with_reducible refine L2.iteF ?_
  | with_reducible refine Rd.iteb ?_ | with_reducible refine Rd.iten ?_ | with_reducible refine Rd.itbn ?_))

local macro_rules | `(tactic| walk_at "yes") => `(tactic| (refine (if_pos (by first | assumption | omega)).mpr ?_))
local macro_rules | `(tactic| walk_at "no") => `(tactic| (refine (if_neg (by first | assumption | omega)).mpr ?_))

local macro_rules | `(tactic| k_extra "ne") => `(tactic| first
  | with_reducible assumption | with_reducible exact Ne.symm (by with_reducible assumption) | with_reducible exact Rd.ntT (by with_reducible assumption) (by k_extra "tape")
  | with_reducible exact Rd.neN (by with_reducible assumption) (by k_extra "at") | with_reducible exact Rd.neN' (by with_reducible assumption) (by k_extra "at"))
local macro_rules | `(tactic| k_extra "tape") => `(tactic| first
  | with_reducible assumption | with_reducible exact Rd.tape_same (by with_reducible assumption) (by k_extra "tape"))
local macro_rules | `(tactic| k_extra "at") => `(tactic| first
  | with_reducible assumption
  | with_reducible exact Rd.at_same (by with_reducible assumption) (by k_extra "at")
  | with_reducible exact Rd.at_off (by with_reducible assumption) (by k_extra "ne") (by k_extra "at")
  | with_reducible exact Rd.at_but (by with_reducible assumption) (by k_extra "ne") (by k_extra "at"))
local macro_rules | `(tactic| k_extra "bk") => `(tactic| first
  | with_reducible assumption
  | with_reducible exact Rd.book_same (by with_reducible assumption) (by k_extra "bk")
  | with_reducible exact Rd.book_but (by with_reducible assumption) (by k_extra "tape") (by k_extra "bk"))
local macro_rules | `(tactic| k_extra "sqL") => `(tactic| first
  | with_reducible assumption | with_reducible exact L2.Same.seq (by with_reducible assumption) (by k_extra "sqL"))
local macro_rules | `(tactic| k_extra "sqT") => `(tactic| first
  | with_reducible assumption | with_reducible exact Ru.same_tup (by with_reducible assumption) (by k_extra "sqT"))
local macro_rules | `(tactic| k_extra "sq") => `(tactic| first
  | with_reducible assumption | (with_reducible show L2.SqL _ _ _ _; first | exact L2.SqL.of (by k_extra "at") | k_extra "sqL") | (with_reducible show L2.SqT _ _ _ _; first | exact L2.SqT.of (by k_extra "at") | k_extra "sqT"))
local macro_rules | `(tactic| k_extra "row") => `(tactic| first
  | with_reducible assumption | exact Or.inl (L2.SqL.of (by k_extra "at")) | exact Or.inr (L2.SqT.of (by k_extra "at")) | exact Or.inl (by k_extra "sqL") | exact Or.inr (by k_extra "sqT"))
local macro_rules | `(tactic| k_extra "same") => `(tactic| first
  | with_reducible exact L2.Same.refl _ | with_reducible assumption
  | with_reducible exact Rd.same_tr (by with_reducible assumption) (by k_extra "same")
  | with_reducible exact Rd.same_of2 (by with_reducible assumption) (by with_reducible assumption) (by k_extra "same"))
local macro_rules | `(tactic| k_extra "but") => `(tactic| first
  | with_reducible exact Rd.But.refl _ _ | with_reducible assumption
  | with_reducible exact Rd.but_tr (by with_reducible assumption) (by k_extra "but")
  | with_reducible exact Rd.but_sm (by with_reducible assumption) (by k_extra "but")
  | with_reducible exact Rd.but_of2 (by with_reducible assumption) (by with_reducible assumption) (by k_extra "but"))
local macro_rules | `(tactic| k_extra "sz") => `(tactic| first
  | with_reducible assumption | with_reducible exact Lt.Wd.line (by with_reducible assumption) (by decide) | (rw [PySem.sizeLine_eq]; omega)
  | (simp only [List.length_map, List.length_append, List.length_cons, List.length_nil, List.length_take] <;> rw [PySem.sizeLine_eq] <;> omega) | exact Nat.le_of_ble_eq_true rfl)
local macro_rules | `(tactic| k_extra "go1") => `(tactic| first
  | (with_reducible show Rd.nLenS _ _ _; refine Rd.lenStr (by k_extra "sz") ?_)
  | (with_reducible show Rd.nLen _ _ _ _; first | refine Rd.lenS (by k_extra "row") ?_ | refine Rd.lenI (by k_extra "row") ?_ | refine Rd.lenR (by k_extra "row") ?_)
  | (with_reducible show L2.rSlS _ _ _ _ _; refine Rd.slS (by k_extra "sz") ?_)
  | (with_reducible show L2.tyV _ "list" _ _ ∧ _; refine Rd.tyL (by k_extra "sq") ?_)
  | (with_reducible show Rd.nAddS _ _ _ _; refine Rd.addS (by k_extra "sz") ?_)
  | (with_reducible show L2.rIsi _ _ _ _; first | with_reducible refine Rd.isiStr ?_ | with_reducible refine Rd.isiB ?_ | with_reducible refine Rd.isiI ?_ | with_reducible refine Rd.isiIB ?_ | (first | with_reducible refine Rx.askInt (by with_reducible assumption) ?_ | with_reducible refine Rx.askBl (by with_reducible assumption) ?_ | with_reducible refine Rx.askStr (by with_reducible assumption) ?_ | with_reducible refine Rx.askLst (by with_reducible assumption) ?_ | with_reducible refine Rx.askTup (by with_reducible assumption) ?_ | with_reducible refine Rx.askDct (by with_reducible assumption) ?_))
  | (with_reducible show L2.rIn _ _ _ _ _ _; first | refine Rd.inStrsY (by k_extra "row") ?_ | refine Rd.inStrsN (by k_extra "row") ?_ | refine Rd.inIntsY (by k_extra "row") ?_ | refine Rd.inIntsN (by k_extra "row") ?_)
  | with_reducible refine And.intro (Eq.refl L2.V.non) ?_ | with_reducible refine Rd.ifN ?_ | with_reducible refine Rd.ifR ?_ | with_reducible refine Rd.ifI ?_ | with_reducible refine Rd.ifT ?_)
local macro_rules | `(tactic| walk_at "go") => `(tactic| (walk_at "rd"; repeat (k_extra "go1"; walk_at "rd")))
local macro_rules | `(tactic| walk_at "ifs") => `(tactic| (walk_at "go"; repeat (first | (refine Rd.no (by decide) ?_; walk_at "go") | (refine Rd.yes (by decide) ?_; walk_at "go"))))

namespace W
open PySem PySem.Spec PyProof.Rows L2
section
variable {P : Program} {w : World} {K : PySem.W.Frag} {mg : Str → Option Value} {base : Heap}
/-! ### WayError.__init__ -/
abbrev sp_WayError_init (K : PySem.W.Frag) : Sp := Rx.spWe K
theorem ok_WayError_init (T : Txt K mg) : FnOk P w K mg base CX0 1 T.f_WayError_init T.fd_WayError_init ["self", "value"] (sp_WayError_init K) := by
  refine T.D_WayError_init.ok (CX := CX0) sc_WayError_init (fun vs H Q E h => ?_) (fun cdv A outer s H vs Q E hr h => ?_)
  · obtain ⟨a, C, v, rfl, _⟩ := h
    rfl
  · obtain ⟨a, C, v, rfl, oc, nv, ha, k⟩ := h
    refine ⟨_, (pss_one (ps_ost (pv 0) (pv 1))), ?_⟩
    exact ⟨_, rfl, _, rfl, a, C, rfl, oc, nv, .inl ⟨ha, fun dx n ne => k dx n ne⟩⟩

end
end W

namespace W
open PySem PySem.Spec PyProof.Rows L2
section
variable {P : Program} {w : World} {K : PySem.W.Frag} {mg : Str → Option Value} {base : Heap}
/-! ### own == handed anything -/
theorem sub_ne {K : PySem.W.Frag} {C D : Addr} (h1 : PySem.W.subIn K (.ref C) (.ref C) = some true) (h2 : PySem.W.subIn K (.ref D) (.ref C) = some false) : (Value.ref D == Value.ref C) = false := by
  by_cases e : D = C
  · subst e
    rw [h1] at h2
    cases h2
  · simp [e]
/-- x is of a type of which C tells r -/
def Of (K : PySem.W.Frag) (H : Hp) (C : Addr) (x : V) (r : Bool) : Prop := ∃ t, TyX K H x t ∧ PySem.W.kitOne K t (.ref C) = some r
theorem Of.ask {C : Addr} {H : Hp} {x : V} {r : Bool} {Q : VK} (h : Of K H C x r) (q : Q (.bl r) H) : rIsi K [x, .ref C] H Q := let ⟨_, t, k⟩ := h; ⟨_, _, _, _, r, rfl, .own _, t, k, q⟩
theorem Of.kind {C : Addr} {H : Hp} {x : V} {k : Rx.Kd} (ic : PySem.W.isClsIn K C = true) (tc : PySem.W.typeIn K (.ref C) = some (.type "type")) (h : Rx.Is H x k) : Of K H C x false := ⟨_, h.ty, by cases k <;> exact Rp.kitB_own ic tc rfl⟩
theorem Of.own {C a dx : Addr} {fs : List (Str × V)} {H : Hp} (c : Cls K C) (o : OwnTy K C) (e : H a = some (.ins C dx fs)) : Of K H C (.ref a) true := ⟨_, .base (.ins e c o.ha o.hn o.htk o.hm), kit_self⟩
theorem Of.other {C D a dx : Addr} {fs : List (Str × V)} {H : Hp} (ic : PySem.W.isClsIn K C = true) (tc : PySem.W.typeIn K (.ref C) = some (.type "type")) (sl : PySem.W.subIn K (.ref C) (.ref C) = some true) (s : PySem.W.subIn K (.ref D) (.ref C) = some false) (c : Cls K D) (o : OwnTy K D) (e : H a = some (.ins D dx fs)) : Of K H C (.ref a) false :=
  ⟨_, .base (.ins e c o.ha o.hn o.htk o.hm), Rp.kitO_own ic tc s (sub_ne sl s)⟩
def sp_Lengths_eq (K : PySem.W.Frag) (C : Addr) : Sp := fun vs H Q _ => ∃ (x y : V) (r : Bool), vs = [x, y] ∧ Of K H C y r ∧ Q (.bl r) H
def sp_Numbers_eq (K : PySem.W.Frag) (C : Addr) : Sp := fun vs H Q _ => ∃ (x y : V) (r : Bool), vs = [x, y] ∧ Of K H C y r ∧ Q (.bl r) H
/-- an instance on the left, something else on the right: what the own == tells -/
theorem oxOf {C a dx : Addr} {fs : List (Str × V)} {H : Hp} {y : V} {t : Value} {sp : Sp} {Q : VK} (e : H a = some (.ins C dx fs)) (ty : TyX K H y t) (nf : PySem.W.notFirst K C t = true) (h : sp [.ref a, y] H (fun v H' => ∃ k, v = .bl k ∧ Q (.bl k) H') E0) : Rp.rOX K C sp E0 (.ref a) y H Q :=
  ⟨a, dx, fs, t, rfl, e, ty, nf, h⟩

end
end W

namespace W
open PySem PySem.Spec PyProof.Rows L2
section
variable {P : Program} {w : World} {K : PySem.W.Frag} {mg : Str → Option Value} {base : Heap}
/-! ### the tape: a list of the cells (never written) and four ints; what is drawn lies below the size -/
/-- a tape stands at t, its cells at c -/
def sp_l_tape (K : PySem.W.Frag) : Sp := fun vs H Q _ => ∃ (a : Addr) (ns : List Int), vs = [.ref a] ∧ SqL K H a (ns.map V.int) ∧ ∀ t c H', Tape H' t c → Same H H' → H t = none → H c = none → Q (.ref t) H'
def sp_l_pick (K : PySem.W.Frag) : Sp := fun vs H Q _ => ∃ (t c : Addr) (n : Int), vs = [.ref t, .int n] ∧ Tape H t c ∧ 0 < n ∧ n < 1073741824 ∧ ∀ r H', 0 ≤ r → r < n → Tape H' t c → Rd.But t H H' → Q (.int r) H'
theorem ok_l_tape (T : Txt K mg) : FnOk P w K mg base CX0 1 T.f_l_tape T.fd_l_tape ["_law_script"] (sp_l_tape K) := by
  refine T.F_l_tape.ok sc_l_tape (fun vs H Q E h => ?_) (fun cdv A outer s H vs Q E hr h => ?_)
  · obtain ⟨a, ns, rfl, _⟩ := h
    rfl
  · obtain ⟨a, ns, rfl, hS, k⟩ := h
    refine ⟨_, (pss_one (ps_ret (pe_lst (pa_cons (pe_callTy (T := "list") (r := Rd.nListOf K) Rd.c_listOf (by rfl) T.n_list (by decide +kernel) (pa_cons (pv 0) pa_nil)) (pa_cons pe_int (pa_cons pe_int (pa_cons pe_int (pa_cons pe_int pa_nil)))))))), ?_⟩
    walk_at "rd"
    refine Rd.listOf (.inl hS) (Rd.new fun c G hc gc s1 => ?_)
    walk_at "rd"
    refine ⟨Nat.le_of_ble_eq_true rfl, Rd.new fun t G2 ht gt s2 => ?_⟩
    have tc : c ≠ t := ne_of_none gc ht
    exact k t c _ ⟨ns, 0, 0, 1, 0, tc.symm, gt, s2 _ _ gc, by decide, by omega, by decide, by decide⟩ (s1.trans s2) (s1.free ht) hc
theorem ok_l_pick (T : Txt K mg) : FnOk P w K mg base CX0 1 T.f_l_pick T.fd_l_pick ["_law_tape_here", "_law_size"] (sp_l_pick K) := by
  refine T.F_l_pick.ok sc_l_pick (fun vs H Q E h => ?_) (fun cdv A outer s H vs Q E hr h => ?_)
  · obtain ⟨t, c, n, rfl, _⟩ := h
    rfl
  · obtain ⟨t, c, n, rfl, ⟨ns, x, y, z, u, tc, h1, h2, x0, x1, z0, z1⟩, n0, n1, k⟩ := h
    refine ⟨_, (pss_cons (ps_if (pt_cmpR op_gt (pe_ix (r := rIxL K) ix_list (pv 0) pe_int (fun _ _ => rfl)) pe_int (nomark _))
  (pss_cons (ps_set (i := 2) sc_l_pick.nd rfl (.inl rfl) (pe_op op_mod (pe_callTy (T := "int") (r := _) Rd.c_int (by rfl) T.n_int (by decide +kernel) (pa_cons (pe_ix (r := rIxL K) ix_list (pv 0) pe_int (fun _ _ => rfl)) pa_nil)) (pv 1)))
  (pss_cons (ps_asg (pe_op op_fdiv (pe_ix (r := rIxL K) ix_list (pv 0) pe_int (fun _ _ => rfl)) (pv 1)) (pg_sub (pv 0) pe_int set_list))
  (pss_one (ps_ret (pv 2)))))
  pss_nil)
  (pss_cons (ps_asg (pe_op op_add (pe_ix (r := rIxL K) ix_list (pv 0) pe_int (fun _ _ => rfl)) pe_int) (pg_sub (pv 0) pe_int set_list))
  (pss_cons (ps_set (i := 3) sc_l_pick.nd rfl (.inl rfl) pe_int)
  (C8.pss_cut (ps_if (pt_cmpR op_lt (pe_ix (r := rIxL K) ix_list (pv 0) pe_int (fun _ _ => rfl)) (pe_callB (id := "len") (r := Rd.nLen K) Rd.c_len (by rfl) T.n_len (by decide +kernel) (pa_cons (pe_ix ix_list (pv 0) pe_int (fun _ _ => rfl)) pa_nil)) (nomark _))
  (pss_cons (ps_set (i := 3) sc_l_pick.nd rfl (.inl rfl) (pe_ix (r := rIxL K) ix_list (pe_ix ix_list (pv 0) pe_int (fun _ _ => rfl)) (pe_ix (r := rIxL K) ix_list (pv 0) pe_int (fun _ _ => rfl)) (fun _ _ => rfl)))
  (pss_one (ps_asg (pe_op op_add (pe_ix (r := rIxL K) ix_list (pv 0) pe_int (fun _ _ => rfl)) pe_int) (pg_sub (pv 0) pe_int set_list))))
  pss_nil)
  (pss_cons (ps_if (pt_cmpR op_ge (pv 3) (pe_op op_pow pe_int pe_int) (nomark _))
  (pss_cons (ps_asg (pe_op op_fdiv (pv 3) (pv 1)) (pg_sub (pv 0) pe_int set_list))
  (pss_one (ps_ret (pe_op op_mod (pe_callTy (T := "int") (r := _) Rd.c_int (by rfl) T.n_int (by decide +kernel) (pa_cons (pv 3) pa_nil)) (pv 1)))))
  pss_nil)
  (pss_cons (ps_set (i := 4) sc_l_pick.nd rfl (.inl rfl) (pe_op op_mod (pe_callTy (T := "int") (r := _) Rd.c_int (by rfl) T.n_int (by decide +kernel) (pa_cons (pe_op op_add (pe_op op_add (pe_op op_mul (pe_ix (r := rIxL K) ix_list (pv 0) pe_int (fun _ _ => rfl)) pe_int) (pe_op op_mod (pe_callTy (T := "int") (r := _) Rd.c_int (by rfl) T.n_int (by decide +kernel) (pa_cons (pv 3) pa_nil)) pe_int)) (pe_op op_mul (pe_ix (r := rIxL K) ix_list (pv 0) pe_int (fun _ _ => rfl)) pe_int)) pa_nil)) pe_int))
  (pss_cons (ps_set (i := 4) sc_l_pick.nd rfl (.inl rfl) (pe_op op_mod (pe_callTy (T := "int") (r := _) Rd.c_int (by rfl) T.n_int (by decide +kernel) (pa_cons (pe_op op_mul (pv 4) (pe_op op_add (pe_op op_fdiv (pv 4) pe_int) pe_int)) pa_nil)) pe_int))
  (pss_cons (ps_asg (pv 4) (pg_sub (pv 0) pe_int set_list))
  (pss_one (ps_ret (pe_op op_mod (pe_callTy (T := "int") (r := _) Rd.c_int (by rfl) T.n_int (by decide +kernel) (pa_cons (pe_op op_fdiv (pv 4) pe_int) pa_nil)) (pv 1)))))))))))), ?_⟩
    walk_at "rd"
    refine Rd.ixL (.of h1) (atI_nat (j := 2) rfl) ?_
    walk_at "rd"
    refine ite2 (fun q => ?_) (fun q => ?_)
    · walk_at "rd"
      refine Rd.ixL (.of h1) (atI_nat (j := 2) rfl) ?_
      walk_at "rd"
      refine Rd.iC n0 ?_
      walk_at "rd"
      refine Rd.ixL (.of h1) (atI_nat (j := 2) rfl) ?_
      walk_at "rd"
      refine Rd.iC ⟨n0, n1⟩ ?_
      walk_at "rd"
      refine Rd.setG h1 (show ixN 5 2 = some 2 by decide) rfl fun G g1 gb => ?_
      walk_at "rd"
      exact k _ _ (Int.emod_nonneg _ (by omega)) (Int.emod_lt_of_pos _ n0) ⟨ns, x, _, z, u, tc, g1, by rw [gb _ tc.symm]; exact h2, x0, x1, z0, z1⟩ (fun b o hb e => by rw [gb b hb]; exact e)
    · walk_at "rd"
      refine Rd.ixL (.of h1) (atI_nat (j := 4) rfl) ?_
      walk_at "rd"
      refine Rd.setG h1 (show ixN 5 4 = some 4 by decide) rfl fun G g1 gb => ?_
      have g2 : G c = some (.lst (ns.map V.int)) := by rw [gb _ tc.symm]; exact h2
      walk_at "rd"
      -- the cell m is read (or 0)
      refine Rd.cut (fun σ G' => ∃ x' m : Int, σ = [some (.ref t), some (.int n), none, some (.int m), none] ∧ 0 ≤ x' ∧ x' ≤ ns.length ∧ G' t = some (.lst [.ref c, .int x', .int y, .int z, .int (u + 1)]) ∧ (∀ b, b ≠ t → G' b = H b)) ?_ ?_
      · walk_at "rd"
        refine Rd.ixL (.of g1) (atI_nat (j := 1) rfl) ?_
        walk_at "rd"
        refine Rd.ixL (.of g1) (atI_nat (j := 0) rfl) ?_
        walk_at "rd"
        refine Rd.len (.inl (.of g2)) ?_
        rw [List.length_map]
        walk_at "rd"
        refine ite2 (fun q2 => ?_) (fun q2 => ?_)
        · walk_at "rd"
          refine Rd.ixL (.of g1) (atI_nat (j := 0) rfl) ?_
          walk_at "rd"
          refine Rd.ixL (.of g1) (atI_nat (j := 1) rfl) ?_
          have hx : x.toNat < ns.length := by omega
          refine Rd.ixL (.of g2) (Rd.atI_of x0 (Rd.map_int hx)) ?_
          walk_at "rd"
          refine Rd.ixL (.of g1) (atI_nat (j := 1) rfl) ?_
          walk_at "rd"
          refine Rd.setG g1 (show ixN 5 1 = some 1 by decide) rfl fun G2 k1 kb => ?_
          walk_at "rd"
          exact ⟨x + 1, _, rfl, by omega, by omega, k1, fun b hb => (kb b hb).trans (gb b hb)⟩
        · walk_at "rd"
          exact ⟨x, 0, rfl, x0, x1, g1, gb⟩
      · rintro _ G' ⟨x', m, rfl, x'0, x'1, e1, eb⟩
        have e2 : G' c = some (.lst (ns.map V.int)) := by rw [eb _ tc.symm]; exact h2
        walk_at "rd"
        refine Rd.iC ⟨by decide, by decide, by decide⟩ ?_
        walk_at "rd"
        refine ite2 (fun q2 => ?_) (fun q2 => ?_)
        · walk_at "rd"
          refine Rd.iC ⟨n0, n1⟩ ?_
          walk_at "rd"
          refine Rd.setG e1 (show ixN 5 2 = some 2 by decide) rfl fun G2 k1 kb => ?_
          walk_at "rd"
          refine Rd.iC n0 ?_
          walk_at "rd"
          exact k _ _ (Int.emod_nonneg _ (by omega)) (Int.emod_lt_of_pos _ n0) ⟨ns, x', _, z, u + 1, tc, k1, by rw [kb _ tc.symm]; exact e2, x'0, x'1, z0, z1⟩ (fun b o hb e => by rw [kb b hb, eb b hb]; exact e)
        · walk_at "rd"
          refine Rd.ixL (.of e1) (atI_nat (j := 3) rfl) ?_
          walk_at "rd"
          refine Rd.iC (.inr (by decide)) ?_
          walk_at "rd"
          refine Rd.iC (by decide) ?_
          walk_at "rd"
          refine Rd.ixL (.of e1) (atI_nat (j := 4) rfl) ?_
          walk_at "rd"
          refine Rd.iC (.inr (by decide)) ?_
          walk_at "rd"
          refine Rd.iC (by decide) ?_
          generalize hM : (z * 48271 + m % 2147483629 + (u + 1) * 69621) % 2147483647 = M
          have M0 : 0 ≤ M := by rw [← hM]; exact Int.emod_nonneg _ (by decide)
          have M1 : M < 2147483647 := by rw [← hM]; exact Int.emod_lt_of_pos _ (by decide)
          walk_at "rd"
          refine Rd.iC ⟨by decide, by decide⟩ ?_
          walk_at "rd"
          refine Rd.iC (.inl ⟨by omega, by omega⟩) ?_
          walk_at "rd"
          refine Rd.iC (by decide) ?_
          generalize hN : M * (M / 1009 + 40692) % 2147483399 = N
          have N0 : 0 ≤ N := by rw [← hN]; exact Int.emod_nonneg _ (by decide)
          have N1 : N < 2147483399 := by rw [← hN]; exact Int.emod_lt_of_pos _ (by decide)
          walk_at "rd"
          refine Rd.setG e1 (show ixN 5 3 = some 3 by decide) rfl fun G2 k1 kb => ?_
          walk_at "rd"
          refine Rd.iC ⟨by decide, by decide⟩ ?_
          walk_at "rd"
          refine Rd.iC n0 ?_
          walk_at "rd"
          exact k _ _ (Int.emod_nonneg _ (by omega)) (Int.emod_lt_of_pos _ n0) ⟨ns, x', y, N, u + 1, tc, k1, by rw [kb _ tc.symm]; exact e2, x'0, x'1, N0, by omega⟩ (fun b o hb e => by rw [kb b hb, eb b hb]; exact e)
theorem pickR {K : PySem.W.Frag} {H : Hp} {t c : Addr} {n : Int} {Q : VK} {E : XK} (T : Tape H t c) (h0 : 0 < n) (h1 : n < 1073741824) (k : ∀ r H', 0 ≤ r → r < n → Tape H' t c → Rd.But t H H' → Q (.int r) H') : sp_l_pick K [.ref t, .int n] H Q E := ⟨t, c, n, rfl, T, h0, h1, k⟩
/-! ### what stays when only the tape is written -/
theorem but_L {K : PySem.W.Frag} {H H' : Hp} {t a : Addr} {xs : List V} (e : Rd.But t H H') (n : a ≠ t) (h : SqL K H a xs) : SqL K H' a xs := by
  rcases h with (h | ⟨o, h⟩) | h
  · exact .inl (.inl (e _ _ n h))
  · exact .inl (.inr ⟨o, e _ _ n h⟩)
  · exact .inr h
theorem but_T {K : PySem.W.Frag} {H H' : Hp} {t a : Addr} {xs : List V} (e : Rd.But t H H') (n : a ≠ t) (h : SqT K H a xs) : SqT K H' a xs := by
  rcases h with (h | ⟨o, h⟩) | h
  · exact .inl (.inl (e _ _ n h))
  · exact .inl (.inr ⟨o, e _ _ n h⟩)
  · exact .inr h
theorem but_R {K : PySem.W.Frag} {H H' : Hp} {t a : Addr} {xs : List V} (e : Rd.But t H H') (n : a ≠ t) (h : Ru.SqR K H a xs) : Ru.SqR K H' a xs := h.imp (but_L e n) (but_T e n)

end
end W

namespace W
open PySem PySem.Spec PyProof.Rows L2
section
variable {P : Program} {w : World} {K : PySem.W.Frag} {mg : Str → Option Value} {base : Heap}
/-! ### naturals as values -/
def natV (P : List Nat) : List V := (P.map fun i : Nat => (i : Int)).map V.int
theorem natV_len (P : List Nat) : (natV P).length = P.length := by
  unfold natV
  rw [List.length_map, List.length_map]
theorem natV_get {P : List Nat} {i : Nat} {x : V} (h : (natV P)[i]? = some x) : ∃ j, P[i]? = some j ∧ x = .int (j : Nat) := by
  unfold natV at h
  rw [List.map_map, List.getElem?_map] at h
  cases e : P[i]? with
  | none => rw [e] at h; cases h
  | some j => rw [e] at h; exact ⟨j, rfl, (Option.some.inj h).symm⟩
theorem mem_nat {P : List Nat} {i : Nat} : ((i : Int) ∈ P.map fun j : Nat => (j : Int)) ↔ i ∈ P := by
  rw [List.mem_map]
  constructor
  · rintro ⟨j, m, e⟩
    rw [show i = j by omega]
    exact m
  · exact fun m => ⟨i, m, rfl⟩
theorem paired_mono {α β : Type} {R S : α → β → Prop} {xs : List α} {ys : List β} (h : Paired R xs ys) (f : ∀ x y, R x y → S x y) : Paired S xs ys := by
  induction h with
  | nil => exact .nil
  | cons a _ ih => exact .cons (f _ _ a) ih
theorem paired_app {α β : Type} {R : α → β → Prop} {xs us : List α} {ys ws : List β} (h : Paired R xs ys) (k : Paired R us ws) : Paired R (xs ++ us) (ys ++ ws) := by
  induction h with
  | nil => exact k
  | cons a _ ih => exact .cons a ih
theorem paired_at {α β : Type} {R : α → β → Prop} {xs : List α} {ys : List β} (h : Paired R xs ys) : ∀ {i : Nat} {x : α}, xs[i]? = some x → ∃ y, ys[i]? = some y ∧ R x y := by
  induction h with
  | nil => intro i x e; simp at e
  | cons a _ ih =>
    intro i x e
    cases i with
    | zero => cases e; exact ⟨_, rfl, a⟩
    | succ i => exact ih e

end
end W

namespace W
open PySem PySem.Spec PyProof.Rows L2
section
variable {P : Program} {w : World} {K : PySem.W.Frag} {mg : Str → Option Value} {base : Heap}
/-! ### is_integer of anything -/
def sp_is_integer (K : PySem.W.Frag) : Sp := fun vs H Q _ => ∃ (x : V) (k : Rx.Kd), vs = [x] ∧ Rx.Is H x k ∧ Q (.bl k.isNum) H
theorem ok_is_integer (T : Txt K mg) : FnOk P w K mg base CX0 1 T.f_is_integer T.fd_is_integer ["value"] (sp_is_integer K) := by
  refine T.F_is_integer.ok sc_is_integer (fun vs H Q E h => ?_) (fun cdv A outer s H vs Q E hr h => ?_)
  · obtain ⟨x, kd, rfl, _⟩ := h
    rfl
  · obtain ⟨x, kd, rfl, hx, k⟩ := h
    refine ⟨_, (pss_one (ps_ret (pe_and (pe_callB (id := "isinstance") (r := rIsi K) call_isi (by rfl) T.n_isinstance (by decide +kernel) (pa_cons (pv 0) (pa_cons (pe_bltn (v := .ty "int") (u := .type "int") (by rfl) T.n_int (by decide +kernel) rfl) pa_nil))) (pe_one (pe_not (pe_callB (id := "isinstance") (r := rIsi K) call_isi (by rfl) T.n_isinstance (by decide +kernel) (pa_cons (pv 0) (pa_cons (pe_bltn (v := .ty "bool") (u := .type "bool") (by rfl) T.n_bool (by decide +kernel) rfl) pa_nil)))))))), ?_⟩
    walk_at "go"
    cases hx <;> first | (refine Rd.no Bool.false_ne_true ?_; exact k) | (refine Rd.yes rfl ?_; walk_at "go"; exact k)
theorem intI {H : Hp} {i : Int} {Q : VK} {E : XK} (q : Q (.bl true) H) : sp_is_integer K [.int i] H Q E := ⟨_, _, rfl, .int i, q⟩

end
end W

namespace W
open PySem PySem.Spec PyProof.Rows L2
section
variable {P : Program} {w : World} {K : PySem.W.Frag} {mg : Str → Option Value} {base : Heap}
/-! ### letters and watches: texts of any signs -/
/-- no text -/
def NoTxt (K : PySem.W.Frag) (H : Hp) (x : V) : Prop := (∃ k, Rx.Is H x k ∧ k.isStr = false) ∨ ∃ (a C dx : Addr) (fs : List (Str × V)), x = .ref a ∧ H a = some (.ins C dx fs) ∧ Cls K C ∧ OwnTy K C ∧ PySem.W.mroIn K C (.type "str") = some false
theorem NoTxt.same {H H' : Hp} {x : V} (s : Same H H') (h : NoTxt K H x) : NoTxt K H' x := h.imp (fun ⟨k, i, e⟩ => ⟨k, i.same s, e⟩) fun ⟨a, C, dx, fs, e, g, r⟩ => ⟨a, C, dx, fs, e, s _ _ g, r⟩
theorem NoTxt.ask {H : Hp} {x : V} {Q : VK} (h : NoTxt K H x) (q : Q (.bl false) H) : rIsi K [x, .ty "str"] H Q := by
  rcases h with ⟨k, i, e⟩ | ⟨a, C, dx, fs, rfl, g, c, o, m⟩
  · refine Rx.askStr i ?_
    rw [e]
    exact q
  · refine ⟨_, _, _, _, false, rfl, .ty "str", .base (.ins g c o.ha o.hn o.htk o.hm), ?_, q⟩
    show (if (Value.ref C == Value.type "str") = true then some true else if PySem.W.kitMeta "str" = true then PySem.W.subIn K (.ref C) (.type "str") else none) = some false
    rw [if_neg (by simp), if_pos (by decide +kernel)]
    exact m
def sp_is_letters (K : PySem.W.Frag) : Sp := fun vs H Q _ => (∃ z : Str, vs = [.str z] ∧ z.length ≤ 1000000 ∧ ∀ (b : Bool) H', (b = true ↔ Lt.Let z) → Same H H' → Q (.bl b) H') ∨ (∃ x, vs = [x] ∧ NoTxt K H x ∧ ∀ H', Same H H' → Q (.bl false) H')
def sp_is_word (K : PySem.W.Frag) : Sp := fun vs H Q _ => (∃ z : Str, vs = [.str z] ∧ z.length ≤ 1000000 ∧ ∀ (b : Bool) H', (b = true ↔ Lt.Wd 40 z) → Same H H' → Q (.bl b) H') ∨ (∃ x, vs = [x] ∧ NoTxt K H x ∧ ∀ H', Same H H' → Q (.bl false) H')
def sp_is_watch (K : PySem.W.Frag) : Sp := fun vs H Q _ => (∃ z : Str, vs = [.str z] ∧ z.length ≤ 1000000 ∧ ∀ (b : Bool) H', (b = true ↔ Lt.Wd 12 z) → Same H H' → Q (.bl b) H') ∨ (∃ x, vs = [x] ∧ NoTxt K H x ∧ ∀ H', Same H H' → Q (.bl false) H')
theorem let_all (z : Str) : (z.cps.toList.map fun c => decide (c ∈ Lt.Abc.cps.toList)).all id = true ↔ Lt.Let z := by
  rw [List.all_eq_true]
  constructor
  · intro h c hc
    have := h _ (List.mem_map.mpr ⟨c, hc, rfl⟩)
    simpa using this
  · intro h b hb
    obtain ⟨c, hc, rfl⟩ := List.mem_map.mp hb
    simpa using h c hc
theorem ok_is_letters (T : Txt K mg) : FnOk P w K mg base CX0 1 T.f_is_letters T.fd_is_letters ["value"] (sp_is_letters K) := by
  refine T.F_is_letters.ok sc_is_letters (fun vs H Q E h => ?_) (fun cdv A outer s H vs Q E hr h => ?_)
  · rcases h with ⟨z, rfl, _⟩ | ⟨z, rfl, _⟩ <;> rfl
  · refine ⟨_, (pss_one (ps_ret (pe_and (pe_callB (id := "isinstance") (r := rIsi K) call_isi (by rfl) T.n_isinstance (by decide +kernel) (pa_cons (pv 0) (pa_cons (pe_bltn (v := .ty "str") (u := .type "str") (by rfl) T.n_str (by decide +kernel) rfl) pa_nil))) (pe_one (pe_callB (id := "all") (r := rAll K) (cr_all rfl) (by rfl) T.n_all (by decide +kernel) (pa_cons (pe_lc (own := [("letter", 1)]) (g := gName 1) (tt := tYes) rfl sc_is_letters.nd (pi_str (pv 0)) (blkOk_by (own := [("letter", 1)]) (N := ["value", "letter"]) (sc := defScope s_is_letters) (by decide +kernel)) (fun _ _ _ _ _ => (pg_name (i := 1) sc_is_letters.nd rfl (.inl rfl))) (fun _ _ _ _ _ => pts_nil) (fun _ _ _ _ _ => (pe_cmpR Rd.o_inC (pv 1) (pe_glob (v := .str "abcdefghijklmnopqrstuvwxyz") rfl T.m_LETTERS ⟨_, rfl⟩) rfl))) pa_nil)))))), ?_⟩
    rcases h with ⟨z, rfl, hl, k⟩ | ⟨x, rfl, od, k⟩
    rotate_left
    · walk_at "rd"
      refine od.ask ?_
      walk_at "rd"
      exact k _ (Same.refl _)
    walk_at "rd"
    refine Rd.isiStr ?_
    walk_at "rd"
    refine Rd.lcS walk_str (fun _ _ => trivial) (fun _ i acc _ => acc = ((z.cps.toList.take i).map fun c => decide (c ∈ Lt.Abc.cps.toList)).map V.bl) (fun _ _ _ _ _ => rfl) ?_ ?_
    · rintro D i x G _ acc nD hi hD sm rfl ⟨rfl, c, hc, rfl⟩
      walk_at "rd"
      refine ⟨rfl, Rd.tyes ?_⟩
      walk_at "rd"
      refine Rd.inC ?_
      have hi2 : i < z.length := hi
      have hc2 : z.cps.toList[i]? = some c := by simpa using hc
      refine Rd.lcPush hD nD sm (by rw [List.length_map, List.length_map, List.length_take, sizeLine_eq]; omega) fun G _ _ => ?_
      rw [Rd.take_snoc hc2, List.map_append, List.map_append]
      rfl
    · rintro D acc G nD hD sm rfl
      refine Rd.all (.of hD) ?_
      rw [show (z.cps.toList.take z.cps.size) = z.cps.toList from by rw [← Array.length_toList, List.take_length]]
      exact k _ _ (let_all z) sm
theorem ok_is_word (T : Txt K mg) : FnOk P w K mg base CX0 2 T.f_is_word T.fd_is_word ["thing"] (sp_is_word K) := by
  refine T.F_is_word.ok sc_is_word (fun vs H Q E h => ?_) (fun cdv A outer s H vs Q E hr h => ?_)
  · rcases h with ⟨z, rfl, _⟩ | ⟨z, rfl, _⟩ <;> rfl
  · refine ⟨_, (pss_one (ps_ret (pe_and (pe_call (ok_is_letters T) (hr.mono (by decide)) rfl T.g_is_letters T.F_is_letters.kp T.b_is_letters .nil pass0 (pa_cons (pv 0) pa_nil)) (pe_one (pe_chain op_le op_le pe_int (pe_callB (id := "len") (r := _) Rd.c_lenS (by rfl) T.n_len (by decide +kernel) (pa_cons (pv 0) pa_nil)) (pe_glob (v := .int 40) rfl T.m_MOST_WORD ⟨_, rfl⟩)))))), ?_⟩
    rcases h with ⟨z, rfl, hl, k⟩ | ⟨x, rfl, od, k⟩
    rotate_left
    · walk_at "rd"
      refine .inr ⟨x, rfl, od, fun H1 s1 => ?_⟩
      walk_at "rd"
      exact k _ s1
    walk_at "rd"
    refine .inl ⟨z, rfl, hl, fun b H1 hb s1 => ?_⟩
    walk_at "rd"
    cases b with
    | false =>
      refine Rd.no (fun e => nomatch e) ?_
      walk_at "rd"
      exact k _ _ ⟨fun e => (nomatch e), fun e => absurd (hb.mpr e.ok) Bool.false_ne_true⟩ s1
    | true =>
      have L := hb.mp rfl
      refine Rd.yes rfl ?_
      walk_at "rd"
      refine Rd.lenStr (by rw [sizeLine_eq]; omega) ?_
      walk_at "rd"
      by_cases c : (1 : Int) ≤ (z.length : Nat)
      · refine Rd.yes c ?_
        walk_at "rd"
        exact k _ _ ⟨fun e => ⟨L, by omega, by have := of_decide_eq_true e; omega⟩, fun e => decide_eq_true e.l1⟩ s1
      · refine Rd.no c ?_
        walk_at "rd"
        exact k _ _ ⟨fun e => (nomatch e), fun e => absurd (by have := e.l0; omega) c⟩ s1
theorem ok_is_watch (T : Txt K mg) : FnOk P w K mg base CX0 2 T.f_is_watch T.fd_is_watch ["thing"] (sp_is_watch K) := by
  refine T.F_is_watch.ok sc_is_watch (fun vs H Q E h => ?_) (fun cdv A outer s H vs Q E hr h => ?_)
  · rcases h with ⟨z, rfl, _⟩ | ⟨z, rfl, _⟩ <;> rfl
  · refine ⟨_, (pss_one (ps_ret (pe_and (pe_call (ok_is_letters T) (hr.mono (by decide)) rfl T.g_is_letters T.F_is_letters.kp T.b_is_letters .nil pass0 (pa_cons (pv 0) pa_nil)) (pe_one (pe_chain op_le op_le pe_int (pe_callB (id := "len") (r := _) Rd.c_lenS (by rfl) T.n_len (by decide +kernel) (pa_cons (pv 0) pa_nil)) (pe_glob (v := .int 12) rfl T.m_MOST_WATCH ⟨_, rfl⟩)))))), ?_⟩
    rcases h with ⟨z, rfl, hl, k⟩ | ⟨x, rfl, od, k⟩
    rotate_left
    · walk_at "rd"
      refine .inr ⟨x, rfl, od, fun H1 s1 => ?_⟩
      walk_at "rd"
      exact k _ s1
    walk_at "rd"
    refine .inl ⟨z, rfl, hl, fun b H1 hb s1 => ?_⟩
    walk_at "rd"
    cases b with
    | false =>
      refine Rd.no (fun e => nomatch e) ?_
      walk_at "rd"
      exact k _ _ ⟨fun e => (nomatch e), fun e => absurd (hb.mpr e.ok) Bool.false_ne_true⟩ s1
    | true =>
      have L := hb.mp rfl
      refine Rd.yes rfl ?_
      walk_at "rd"
      refine Rd.lenStr (by rw [sizeLine_eq]; omega) ?_
      walk_at "rd"
      by_cases c : (1 : Int) ≤ (z.length : Nat)
      · refine Rd.yes c ?_
        walk_at "rd"
        exact k _ _ ⟨fun e => ⟨L, by omega, by have := of_decide_eq_true e; omega⟩, fun e => decide_eq_true e.l1⟩ s1
      · refine Rd.no c ?_
        walk_at "rd"
        exact k _ _ ⟨fun e => (nomatch e), fun e => absurd (by have := e.l0; omega) c⟩ s1
/-- what is no word -/
def BadWd (K : PySem.W.Frag) (H : Hp) (x : V) : Prop := (∃ z : Str, x = .str z ∧ z.length ≤ 1000000 ∧ ¬ Lt.Wd 40 z) ∨ NoTxt K H x
theorem BadWd.same {H H' : Hp} {x : V} (s : Same H H') (h : BadWd K H x) : BadWd K H' x := h.imp id (·.same s)
def sp_check_word (K : PySem.W.Frag) (CB : Addr) : Sp := fun vs H Q E => ∃ x, vs = [x] ∧ ((∃ z : Str, x = .str z ∧ Lt.Wd 40 z ∧ ∀ H', Same H H' → Q x H') ∨ (BadWd K H x ∧ Rx.Raised CB x H E))
end
end W

namespace W
open PySem PySem.Spec PyProof.Rows L2
section
variable {P : Program} {w : World} {K : PySem.W.Frag} {mg : Str → Option Value} {base : Heap}
/-! ### texts in order -/
def keyD (z : Str) : PyData := .tuple [.int (z.length : Nat), .str z]
def inOrder (zs : List Str) : List Str := zs.mergeSort (PySem.W.dataLe false keyD)
theorem keys_ok (zs : List Str) : Rs.Keys (zs.map keyD) where
  al d hd d' hd' := by
    obtain ⟨e, _, rfl⟩ := List.mem_map.mp hd
    obtain ⟨f, _, rfl⟩ := List.mem_map.mp hd'
    unfold keyD
    simp [PySem.W.alike, PySem.W.alikeAll]
  so := .inl fun d hd => by
    obtain ⟨e, _, rfl⟩ := List.mem_map.mp hd
    exact ⟨_, _, rfl⟩
  dp d hd := by
    obtain ⟨e, _, rfl⟩ := List.mem_map.mp hd
    show 1 ≤ 50
    decide
def sp_text_key (K : PySem.W.Frag) : Sp := fun vs H Q _ => ∃ z : Str, vs = [.str z] ∧ z.length ≤ 1000 ∧ ∀ (p : Addr) H', Same H H' → H' p = some (.tup [.int (z.length : Nat), .str z]) → Q (.ref p) H'
theorem ok_text_key (T : Txt K mg) : FnOk P w K mg base CX0 1 T.f_text_key T.fd_text_key ["text"] (sp_text_key K) := by
  refine T.F_text_key.ok sc_text_key (fun vs H Q E h => ?_) (fun cdv A outer s H vs Q E hr h => ?_)
  · obtain ⟨z, rfl, _⟩ := h
    rfl
  · obtain ⟨z, rfl, l, k⟩ := h
    refine ⟨_, (pss_one (ps_ret (pe_tup (pa_cons (pe_callB (id := "len") (r := _) Rd.c_lenS (by rfl) T.n_len (by decide +kernel) (pa_cons (pv 0) pa_nil)) (pa_cons (pv 0) pa_nil))))), ?_⟩
    have zl : z.length ≤ sizeLine := by rw [sizeLine_eq]; omega
    walk_at "go"
    refine ⟨Nat.le_of_ble_eq_true rfl, Rd.new fun p G np gp sG => ?_⟩
    exact k p G sG gp
theorem each_strs : ∀ zs : List Str, PySem.W.EachIs (fun x z => x = V.str z) (zs.map V.str) zs
  | [] => .nil
  | z :: zs => .cons rfl (each_strs zs)
theorem strs_each : ∀ {xs : List V} {zs : List Str}, PySem.W.EachIs (fun x z => x = V.str z) xs zs → xs = zs.map V.str
  | _, _, .nil => rfl
  | _, _, .cons h t => by rw [h, strs_each t]; rfl
def sp_in_order (K : PySem.W.Frag) : Sp := fun vs H Q _ => ∃ (a : Addr) (zs : List Str), vs = [.ref a] ∧ SqL K H a (zs.map V.str) ∧ (∀ z ∈ zs, z.length ≤ 1000) ∧ ∀ (l : Addr) H', Same H H' → H l = none → H' l = some (.lst ((inOrder zs).map V.str)) → Q (.ref l) H'
theorem ok_in_order (T : Txt K mg) : FnOk P w K mg base CX0 3 T.f_in_order T.fd_in_order ["texts"] (sp_in_order K) := by
  refine T.F_in_order.ok sc_in_order (fun vs H Q E h => ?_) (fun cdv A outer s H vs Q E hr h => ?_)
  · obtain ⟨a, zs, rfl, _⟩ := h
    rfl
  · obtain ⟨a, zs, rfl, hS, hz, k⟩ := h
    refine ⟨_, (pss_one (ps_ret (pe_callBK (id := "sorted") (ks := [Str.ofString "key"]) (r := Rs.rSortK T.f_text_key (sp_text_key K) K) (Rs.cr_sortK (ok_text_key T) (hr.mono (by decide)) T.b_text_key) (by rfl) T.n_sorted (by decide +kernel) (pa_cons (pv 0) pa_nil) (pk_cons (pe_glob (v := .ref T.f_text_key) rfl T.g_text_key rfl) pk_nil)))), ?_⟩
    walk_at "go"
    refine Rw.sortK keyD (fun x z => x = V.str z) hS (each_strs zs) (keys_ok zs) (fun x z H1 s1 m e => ?_) fun out p G ho np gp sG => ?_
    · subst e
      exact ⟨z, rfl, hz z m, fun q H2 s2 gq => ⟨s2, .tup (.of gq) (.cons (.int _) (.cons (.str _) .nil))⟩⟩
    · rw [strs_each ho] at gp
      exact k p G sG np gp

end
end W

namespace W
open PySem PySem.Spec PyProof.Rows L2
section
variable {P : Program} {w : World} {K : PySem.W.Frag} {mg : Str → Option Value} {base : Heap}
/-! ### books of any watches -/
def okAt (ws : List Str) (i : Nat) : Prop := ∀ w, ws[i]? = some w → Lt.Wd 12 w ∧ w ∉ ws.take i
/-- the first wrong watch is the i-th -/
def FirstBad (ws : List Str) (i : Nat) : Prop := i < ws.length ∧ (∀ j, j < i → okAt ws j) ∧ ¬ okAt ws i
theorem watches_of {ws : List Str} (l : ws.length ≤ 12) (h : ∀ i, i < ws.length → okAt ws i) : Watches ws := by
  refine ⟨?_, l, fun z m => ?_⟩
  · refine List.pairwise_iff_getElem.mpr fun i j hi hj hij e => ?_
    refine (h j hj _ (List.getElem?_eq_getElem hj)).2 ?_
    rw [← e, List.mem_iff_getElem?]
    exact ⟨i, by rw [List.getElem?_take, if_pos hij]; exact List.getElem?_eq_getElem hi⟩
  · obtain ⟨i, hi, rfl⟩ := List.getElem_of_mem m
    exact (h i hi _ (List.getElem?_eq_getElem hi)).1
theorem okAt_of {ws : List Str} (L : Watches ws) (i : Nat) : okAt ws i := fun w e => ⟨L.ok w (List.mem_of_getElem? e), Rd.nodup_take L.nd e⟩
theorem first_or (ws : List Str) : ∀ n, n ≤ ws.length → (∀ i, i < n → okAt ws i) ∨ ∃ i, FirstBad ws i
  | 0, _ => .inl fun i h => absurd h (Nat.not_lt_zero i)
  | n + 1, h => by
    rcases first_or ws n (by omega) with k | k
    · by_cases c : okAt ws n
      · exact .inl fun i hi => by
          rcases Nat.lt_succ_iff_lt_or_eq.mp hi with q | rfl
          · exact k i q
          · exact c
      · exact .inr ⟨n, by omega, k, c⟩
    · exact .inr k
/-- what is handed to a book: right watches, or what is due -/
def BookIn (CB : Addr) (ws : List Str) (H : Hp) (E : XK) (ok : Prop) : Prop := (12 < ws.length ∧ Rx.Raised CB (.int (-1)) H E) ∨ (ws.length ≤ 12 ∧ ∃ i, FirstBad ws i ∧ Rx.Raised CB (.int (i : Nat)) H E) ∨ (Watches ws ∧ ok)
def sp_Book_init (K : PySem.W.Frag) (C CB : Addr) : Sp := fun vs H Q E => ∃ (b a : Addr) (ws : List Str), vs = [.ref b, .ref a] ∧ (∃ dx, H b = some (.ins C dx [])) ∧ Ru.SqR K H a (ws.map V.str) ∧ (∀ z ∈ ws, z.length ≤ 1000000) ∧ ws.length ≤ 1000000 ∧ BookIn CB ws H E (∀ H', BookAt C H' b ws → Rd.But b H H' → Q .non H')
def sp_Book_eq (K : PySem.W.Frag) (C : Addr) : Sp := fun vs H Q _ => ∃ (b c : Addr) (ws zs : List Str), vs = [.ref b, .ref c] ∧ BookAt C H b ws ∧ BookAt C H c zs ∧ ws.length ≤ 12 ∧ zs.length ≤ 12 ∧ (∀ z ∈ ws, z.length ≤ 1000000) ∧ (∀ z ∈ zs, z.length ≤ 1000000) ∧ ∀ (r : Bool) H', (r = true ↔ ws.length = zs.length ∧ ∀ w ∈ ws, w ∈ zs) → Same H H' → Q (.bl r) H'
def sp_check_book (K : PySem.W.Frag) (C CB : Addr) : Sp := fun vs H Q E => ∃ x, vs = [x] ∧ ((∃ (b : Addr) (ws : List Str), x = .ref b ∧ BookAt C H b ws ∧ Q x H) ∨ (Of K H C x false ∧ Rx.Raised CB x H E))
theorem ok_Book_init (T : Txt K mg) : FnOk P w K mg base (L2.CX P w) 4 T.f_Book_init T.fd_Book_init ["self", "watches"] (sp_Book_init K T.C_Book T.C_BadWatches) := by
  refine T.F_Book_init.okX sc_Book_init (fun vs H Q E h => ?_) (fun cdv A outer s H vs Q E hr h => ?_)
  · obtain ⟨b, a, ws, rfl, _⟩ := h
    rfl
  · obtain ⟨b, a, ws, rfl, ⟨dx, hb⟩, hS, hz, hl, h⟩ := h
    refine ⟨_, (pss_cons (ps_if (PW.pt (pw_or (pt_not (pt_val (pe_callB (id := "isinstance") (r := rIsiT K) call_isiT (by rfl) T.n_isinstance (by decide +kernel) (pa_cons (pv 1) (pa_cons (pe_tup (pa_cons (pe_bltn (v := .ty "list") (u := .type "list") (by rfl) T.n_list (by decide +kernel) rfl) (pa_cons (pe_bltn (v := .ty "tuple") (u := .type "tuple") (by rfl) T.n_tuple (by decide +kernel) rfl) pa_nil))) pa_nil))))) (pw_or1 (pt_cmpR op_gt (pe_callB (id := "len") (r := Rd.nLen K) Rd.c_len (by rfl) T.n_len (by decide +kernel) (pa_cons (pv 1) pa_nil)) (pe_glob (v := .int 12) rfl T.m_MOST_WATCHES ⟨_, rfl⟩) (nomark _)))))
  (pss_one (Rx.ps_raise1 rfl T.X_BadWatches T.tI_WayError_init (ok_WayError_init T) (hr.mono (by decide)) T.b_WayError_init rfl T.c_BadWatches (takes_of rfl rfl rfl rfl) (pe_un un_neg pe_int)))
  pss_nil)
  (pss_cons (ps_set (i := 2) sc_Book_init.nd rfl (.inl rfl) (pe_lst pa_nil))
  (pss_cons (ps_for (passes_of rfl) rfl (Ru.pi_or (pi_enum (by rfl) T.n_enumerate (pa_cons (pv 1) pa_nil)) (Ru.pi_enumT (by rfl) T.n_enumerate (pa_cons (pv 1) pa_nil))) (pg_tup rfl (pgs_cons (pg_name (i := 3) sc_Book_init.nd rfl (.inl rfl)) (pgs_cons (pg_name (i := 4) sc_Book_init.nd rfl (.inl rfl)) pgs_nil)))
  (pss_cons (ps_if (PW.pt (pw_or (pt_not (pt_val (pe_call (ok_is_watch T) (hr.mono (by decide)) rfl T.g_is_watch T.F_is_watch.kp T.b_is_watch .nil pass0 (pa_cons (pv 4) pa_nil)))) (pw_or1 (pt_cmpR (r := rIn K false) op_in_seq (pv 4) (pv 2) (by rfl)))))
  (pss_one (Rx.ps_raise1 rfl T.X_BadWatches T.tI_WayError_init (ok_WayError_init T) (hr.mono (by decide)) T.b_WayError_init rfl T.c_BadWatches (takes_of rfl rfl rfl rfl) (pv 3)))
  pss_nil)
  (pss_one (ps_expr (pe_bm PySem.F.plainAttrs_list PySem.F.slot_list_append PySem.F.type_list_append mt_append (pv 2) (pa_cons (pv 4) pa_nil))))))
  (pss_one (ps_fld (pv 0) (pe_callTy (T := "tuple") (r := Rd.nTupOf K) Rd.c_tupOf (by rfl) T.n_tuple (by decide +kernel) (pa_cons (pv 2) pa_nil)) rfl))))), ?_⟩
    walk_at "rd"
    refine ⟨Nat.le_of_ble_eq_true rfl, Rd.new fun p G hp gp sG => ?_⟩
    walk_at "rd"
    refine Ru.isRow (hS.same sG) gp ?_
    walk_at "rd"
    refine Rd.len (hS.same sG) ?_
    rw [List.length_map]
    walk_at "rd"
    rcases h with ⟨l, rs⟩ | h
    · refine Rd.yes (by omega) ?_
      walk_at "rd"
      exact rs.now sG
    have l12 : ws.length ≤ 12 := by
      rcases h with ⟨l, _⟩ | ⟨L, _⟩
      · exact l
      · exact L.l1
    refine Rd.no (by omega) ?_
    walk_at "rd"
    refine ⟨Nat.zero_le _, Rd.new fun f G2 nf gf s2 => ?_⟩
    walk_at "rd"
    refine Ru.for_enumR (a := a) (xs := ws.map V.str) (fun Q q => ?_) (fun i σ H' => (∃ x y, σ = [some (.ref b), some (.ref a), some (.ref f), x, y]) ∧ H' f = some (.lst ((ws.take i).map V.str)) ∧ (∀ j, j < i → okAt ws j) ∧ Same G H') (hS.same sG) ⟨⟨_, _, rfl⟩, gf, fun _ h => absurd h (Nat.not_lt_zero _), s2⟩ (fun i σ H' _ ⟨_, _, _, z⟩ => z) ?_ ?_
    · walk_at "rd"
      exact q
    · rintro i x _ H' t hx ⟨⟨_, _, rfl⟩, hf, hok, sm⟩ hT
      obtain ⟨z, hzi, rfl⟩ := Rd.map_strG hx
      have il : i < ws.length := (List.getElem?_eq_some_iff.mp hzi).1
      have sT := Rd.same_upd (o := .tup [.int (i : Nat), .str z]) hT
      have bad : ¬ okAt ws i → ∀ H1, Same H' H1 → Rx.RaiseQ T.C_BadWatches (.int (i : Nat)) H1 E := fun nb H1 s => by
        rcases h with ⟨_, i0, ⟨h0, h1, h2⟩, rs⟩ | ⟨L, _⟩
        · have : i0 = i := by
            rcases Nat.lt_trichotomy i0 i with q | q | q
            · exact absurd (hok i0 q) h2
            · exact q
            · exact absurd (h1 i q) nb
          subst this
          exact rs.now (sG.trans (sm.trans s))
        · exact absurd (okAt_of L i) nb
      refine Rd.tupT (.of upd_same) rfl ?_
      walk_at "rd"
      refine .inl ⟨z, rfl, hz z (List.mem_of_getElem? hzi), fun b1 H1 hb1 s1 => ?_⟩
      have hf1 := s1 _ _ (sT _ _ hf)
      walk_at "rd"
      cases b1 with
      | false =>
        refine Rd.no (fun e => nomatch e) ?_
        walk_at "rd"
        exact bad (fun o => absurd (hb1.mpr (o z hzi).1) Bool.false_ne_true) H1 (sT.trans s1)
      | true =>
        walk_at "rd"
        refine Rd.inStrsY (.inl (.of hf1)) ?_
        by_cases c : z ∈ ws.take i
        · rw [decide_eq_true c]
          walk_at "rd"
          exact bad (fun o => (o z hzi).2 c) H1 (sT.trans s1)
        · rw [decide_eq_false c]
          walk_at "rd"
          refine Rd.tyL (.of hf1) ?_
          walk_at "rd"
          refine Rd.app hf1 (by rw [List.length_map, List.length_take, sizeLine_eq]; omega) fun G3 g3 off3 => ?_
          walk_at "rd"
          refine ⟨⟨_, _, rfl⟩, ?_, fun j hj => ?_, fun c o e => ?_⟩
          · rw [Rd.take_snoc hzi, List.map_append]
            exact g3
          · rcases Nat.lt_succ_iff_lt_or_eq.mp hj with q | rfl
            · exact hok j q
            · intro w e
              rw [hzi] at e
              cases Option.some.inj e
              exact ⟨hb1.mp rfl, c⟩
          · rw [off3 c (ne_of_none e nf)]
            exact s1 _ _ (sT _ _ (sm _ _ e))
    · rintro _ H' ⟨⟨_, _, rfl⟩, hf, hok, sm⟩
      rw [List.length_map] at hok
      obtain k : ∀ H', BookAt T.C_Book H' b ws → Rd.But b H H' → Q .non H' := by
        rcases h with ⟨_, i0, ⟨h0, h1, h2⟩, rs⟩ | ⟨L, k⟩
        · exact absurd (hok i0 h0) h2
        · exact k
      rw [List.length_map, List.take_length] at hf
      walk_at "rd"
      refine Rd.tupOf (.of hf) (Rd.new fun t G3 nt gt s3 => ?_)
      walk_at "rd"
      have hb3 := s3 _ _ (sm _ _ (sG _ _ hb))
      refine Rd.sfld hb3 T.cl_Book T.na_Book_watches (by decide) rfl fun G4 g4 off4 => ?_
      walk_at "rd"
      refine k _ ⟨dx, t, g4, ?_⟩ fun c o n e => ?_
      · rw [off4 t (ne_of gt hb3 (fun e => nomatch e))]
        exact gt
      · rw [off4 c n]
        exact s3 _ _ (sm _ _ (sG _ _ e))
theorem ok_check_book (T : Txt K mg) : FnOk P w K mg base (L2.CX P w) 4 T.f_check_book T.fd_check_book ["book"] (sp_check_book K T.C_Book T.C_BadBook) := by
  refine T.F_check_book.okX sc_check_book (fun vs H Q E h => ?_) (fun cdv A outer s H vs Q E hr h => ?_)
  · obtain ⟨x, rfl, _⟩ := h
    rfl
  · obtain ⟨x, rfl, h⟩ := h
    refine ⟨_, (pss_cons (ps_if (pt_not (pt_val (pe_callB (id := "isinstance") (r := rIsi K) call_isi (by rfl) T.n_isinstance (by decide +kernel) (pa_cons (pv 0) (pa_cons (pe_glob (v := .ref T.C_Book) rfl T.c_Book rfl) pa_nil)))))
  (pss_one (Rx.ps_raise1 rfl T.X_BadBook T.tI_WayError_init (ok_WayError_init T) (hr.mono (by decide)) T.b_WayError_init rfl T.c_BadBook (takes_of rfl rfl rfl rfl) (pv 0)))
  pss_nil)
  (pss_one (ps_ret (pv 0)))), ?_⟩
    rcases h with ⟨b, ws, rfl, ⟨dx, t, hb, ht⟩, k⟩ | ⟨od, rs⟩
    · walk_at "rd"
      refine isiOwn T.cl_Book T.ty_Book hb ?_
      walk_at "rd"
      exact k
    · walk_at "rd"
      refine od.ask ?_
      walk_at "rd"
      exact rs.now (Same.refl _)

end
end W

namespace W
open PySem PySem.Spec PyProof.Rows L2
section
variable {P : Program} {w : World} {K : PySem.W.Frag} {mg : Str → Option Value} {base : Heap}
theorem Watches.filter {ws : List Str} (h : Watches ws) (f : Str → Bool) : Watches (ws.filter f) := ⟨h.nd.sublist List.filter_sublist, Nat.le_trans (List.length_filter_le _ _) h.l1, fun z m => h.ok z (List.mem_filter.mp m).1⟩
/-- a comprehension that filters, its state -/
theorem filt_stepB {α : Type} {l : List α} {i : Nat} {x : α} {f : α → Bool} (h : l[i]? = some x) : (l.take (i + 1)).filter f = (l.take i).filter f ++ if f x = true then [x] else [] := by
  rw [Rd.take_snoc h, List.filter_append]
  congr 1
  cases e : f x <;> simp [e]
end
end W

namespace W
open PySem PySem.Spec PyProof.Rows L2
section
variable {P : Program} {w : World} {K : PySem.W.Frag} {mg : Str → Option Value} {base : Heap}
/-! ### the roads of a word: lists of spots -/
def Links (K : PySem.W.Frag) (H : Hp) (p : Addr) (n : Nat) (A : Nat → Nat → Prop) : Prop := ∃ rs : List Addr, SqL K H p (rs.map V.ref) ∧ rs.length = n + 1 ∧ ∀ i r, rs[i]? = some r → ∃ ms : List Int, SqL K H r (ms.map V.int) ∧ (ms.Pairwise (· ≤ ·) ∧ ms.length ≤ 1000000) ∧ ∀ x, x ∈ ms ↔ ∃ j : Nat, x = j ∧ A i j
theorem Links.same {K : PySem.W.Frag} {H H' : Hp} {p : Addr} {n : Nat} {A : Nat → Nat → Prop} (h : Links K H p n A) (s : Same H H') : Links K H' p n A := by
  obtain ⟨rs, h1, h2, h3⟩ := h
  exact ⟨rs, s.seq h1, h2, fun i r e => let ⟨ms, k1, k2⟩ := h3 i r e; ⟨ms, s.seq k1, k2⟩⟩
def Rows (H : Hp) (rs : List Addr) (F : Nat → List Int) : Prop := rs.Nodup ∧ ∀ (i : Nat) r, rs[i]? = some r → H r = some (.lst ((F i).map V.int))
theorem Rows.put {H G : Hp} {rs : List Addr} {F : Nat → List Int} (h : Rows H rs F) {i : Nat} {r : Addr} {x : Int} (hi : rs[i]? = some r) (g : G r = some (.lst ((F i).map V.int ++ [.int x]))) (off : ∀ b, b ≠ r → G b = H b) : Rows G rs (fun j => if j = i then F i ++ [x] else F j) := by
  refine ⟨h.1, fun j q hj => ?_⟩
  by_cases c : j = i
  · subst c
    rw [hi] at hj
    cases hj
    show G r = some (.lst ((if j = j then F j ++ [x] else F j).map V.int))
    rw [if_pos rfl, List.map_append]
    exact g
  · have n : q ≠ r := fun e => by
      subst e
      exact c ((List.getElem?_inj (List.getElem?_eq_some_iff.mp hj).1 h.1).mp (hj.trans hi.symm))
    show G q = some (.lst ((if j = i then F i ++ [x] else F j).map V.int))
    rw [if_neg c, off q n]
    exact h.2 j q hj
/-- .. each neighbour once, ascending -/
def LinksN (K : PySem.W.Frag) (H0 H : Hp) (p : Addr) (n : Nat) (A : Nat → Nat → Prop) : Prop := ∃ rs : List Addr, SqL K H p (rs.map V.ref) ∧ rs.length = n + 1 ∧ ∀ i r, rs[i]? = some r → ∃ ms : List Int, SqL K H r (ms.map V.int) ∧ ms.Pairwise (· < ·) ∧ (H r = some (.lst (ms.map V.int)) ∧ H0 r = none) ∧ ∀ x, x ∈ ms ↔ ∃ j : Nat, x = j ∧ A i j
theorem LinksN.same {K : PySem.W.Frag} {H0 H H' : Hp} {p : Addr} {n : Nat} {A : Nat → Nat → Prop} (h : LinksN K H0 H p n A) (s : Same H H') : LinksN K H0 H' p n A := by
  obtain ⟨rs, h1, h2, h3⟩ := h
  refine ⟨rs, s.seq h1, h2, fun i r e => ?_⟩
  obtain ⟨ms, m1, m2, m3, m4⟩ := h3 i r e
  exact ⟨ms, s.seq m1, m2, ⟨s _ _ m3.1, m3.2⟩, m4⟩
theorem adj_fresh {ws : List Str} {k : Nat} {W z : Str} {m : Nat} (nd : ws.Nodup) (hW : ws[k]? = some W) (hw : ∀ W ∈ ws, 1 ≤ W.length) (oc : Mw.Occ W z m) : ¬ Mw.AdjB (ws.take k) W z m m (m + W.length) ∧ ¬ Mw.AdjB (ws.take k) W z m (m + W.length) m := by
  have w1 := hw W (List.mem_of_getElem? hW)
  have no : W ∉ ws.take k := fun h => by
    obtain ⟨j, hj, e⟩ := List.mem_take_iff_getElem.mp h
    obtain ⟨hk, e2⟩ := List.getElem?_eq_some_iff.mp hW
    have := (List.pairwise_iff_getElem.mp nd) j k (by omega) hk (by omega)
    exact this (e.trans e2.symm)
  have same : ∀ W', Mw.Occ W' z m → W'.length = W.length → W' = W := fun W' o e => by
    have h1 := o.2
    rw [e] at h1
    exact h1.symm.trans oc.2
  constructor
  · rintro (⟨W', mm, ⟨o, e⟩ | ⟨o, e⟩⟩ | ⟨h, _⟩ | ⟨h, _⟩)
    · exact no (same W' o (by omega) ▸ mm)
    · have := hw W' (List.mem_of_mem_take mm)
      omega
    · omega
    · omega
  · rintro (⟨W', mm, ⟨o, e⟩ | ⟨o, e⟩⟩ | ⟨h, _⟩ | ⟨h, _⟩)
    · have := hw W' (List.mem_of_mem_take mm)
      omega
    · exact no (same W' o (by omega) ▸ mm)
    · omega
    · omega
theorem sorted_lt {ms : List Int} (h : ms.Pairwise (· ≤ ·)) (nd : ms.Nodup) : ms.Pairwise (· < ·) := by
  have := h.and nd
  exact this.imp fun ⟨a, b⟩ => by omega
def sp_links_of (K : PySem.W.Frag) : Sp := fun vs H Q _ => ∃ (a : Addr) (ws : List Str) (z : Str), vs = [.ref a, .str z] ∧ Ru.SqR K H a (ws.map V.str) ∧ (∀ W ∈ ws, 1 ≤ W.length ∧ W.length ≤ 1000) ∧ ws.length ≤ 100 ∧ z.length ≤ 1000 ∧ ∀ p H', Links K H' p z.length (Mw.Adj ws z) → Same H H' → H p = none → (ws.Nodup → LinksN K H H' p z.length (Mw.Adj ws z)) → Q (.ref p) H'
/-- the rows so far: f the list of them, G0 what stood ahead -/
structure SoFar (G0 H : Hp) (f : Addr) (rs : List Addr) (n : Nat) (F : Nat → List Int) : Prop where
  sm : Same G0 H
  hf : H f = some (.lst (rs.map V.ref))
  ro : Rows H rs F
  ln : rs.length = n + 1
  nr : ∀ r ∈ rs, G0 r = none ∧ r ≠ f
theorem SoFar.put {G0 H G : Hp} {f : Addr} {rs : List Addr} {n : Nat} {F : Nat → List Int} (h : SoFar G0 H f rs n F) {i : Nat} {r : Addr} {x : Int} (hi : rs[i]? = some r) (g : G r = some (.lst ((F i).map V.int ++ [.int x]))) (off : ∀ b, b ≠ r → G b = H b) : SoFar G0 G f rs n (fun j => if j = i then F i ++ [x] else F j) := by
  have m := h.nr r (List.mem_of_getElem? hi)
  refine ⟨fun b o e => ?_, ?_, h.ro.put hi g off, h.ln, h.nr⟩
  · rw [off b (ne_of_none e m.1)]
    exact h.sm b o e
  · rw [off f m.2.symm]
    exact h.hf
theorem SoFar.row {G0 H : Hp} {f : Addr} {rs : List Addr} {n : Nat} {F : Nat → List Int} (h : SoFar G0 H f rs n F) {i : Nat} (hi : i ≤ n) : ∃ r, rs[i]? = some r ∧ H r = some (.lst ((F i).map V.int)) ∧ atI (rs.map V.ref) (i : Int) = some (.ref r) := by
  have l : i < rs.length := by have := h.ln; omega
  exact ⟨rs[i], List.getElem?_eq_getElem l, h.ro.2 i _ (List.getElem?_eq_getElem l), atI_nat (Rd.map_ref l)⟩
theorem ok_links_of (T : Txt K mg) : FnOk P w K mg base CX0 1 T.f_links_of T.fd_links_of ["watches", "word"] (sp_links_of K) := by
  refine T.F_links_of.ok sc_links_of (fun vs H Q E h => ?_) (fun cdv A outer s H vs Q E hr h => ?_)
  · obtain ⟨a, ws, z, rfl, _⟩ := h
    rfl
  · obtain ⟨a, ws, z, rfl, hS, hw, l1, l2, k⟩ := h
    refine ⟨_, (pss_cons (ps_setLc (i := 3) (own := [("spot", 2)]) (g := gName 2) (tt := tYes) rfl sc_links_of.nd rfl rfl (sw_true rfl rfl rfl (by decide +kernel)) (pi_range1 rfl T.n_range (pa_cons (pe_op op_add (pe_callB (id := "len") (r := _) Rd.c_lenS (by rfl) T.n_len (by decide +kernel) (pa_cons (pv 1) pa_nil)) pe_int) pa_nil)) (blkOk_by (own := [("spot", 2)]) (N := ["watches", "word", "spot", "found", "watch", "row"]) (sc := defScope s_links_of) (by decide +kernel)) (fun _ _ _ _ _ => (pg_name (i := 2) sc_links_of.nd rfl (.inl rfl))) (fun _ _ _ _ _ => pts_nil) (fun _ _ _ _ _ => (pe_lst pa_nil)))
  (pss_cons (ps_for PassesOwn.never rfl (Ru.pi_or (pi_list (pv 0)) (pi_tup (pv 0))) (pg_name (i := 4) sc_links_of.nd rfl (.inl rfl))
  (pss_one (ps_for PassesOwn.never rfl (pi_range1 rfl T.n_range (pa_cons (pe_op op_add (pe_op op_sub (pe_callB (id := "len") (r := _) Rd.c_lenS (by rfl) T.n_len (by decide +kernel) (pa_cons (pv 1) pa_nil)) (pe_callB (id := "len") (r := _) Rd.c_lenS (by rfl) T.n_len (by decide +kernel) (pa_cons (pv 4) pa_nil))) pe_int) pa_nil)) (pg_name (i := 2) sc_links_of.nd rfl (.inl rfl))
  (pss_one (ps_if (pt_cmpR op_eq (pe_slice sl_str (pv 1) (po_some (pv 2)) (po_some (pe_op op_add (pv 2) (pe_callB (id := "len") (r := _) Rd.c_lenS (by rfl) T.n_len (by decide +kernel) (pa_cons (pv 4) pa_nil))))) (pv 4) (nomark _))
  (pss_cons (ps_expr (pe_bm PySem.F.plainAttrs_list PySem.F.slot_list_append PySem.F.type_list_append mt_append (pe_ix (r := rIxL K) ix_list (pv 3) (pv 2) (fun _ _ => rfl)) (pa_cons (pe_op op_add (pv 2) (pe_callB (id := "len") (r := _) Rd.c_lenS (by rfl) T.n_len (by decide +kernel) (pa_cons (pv 4) pa_nil))) pa_nil)))
  (pss_one (ps_expr (pe_bm PySem.F.plainAttrs_list PySem.F.slot_list_append PySem.F.type_list_append mt_append (pe_ix (r := rIxL K) ix_list (pv 3) (pe_op op_add (pv 2) (pe_callB (id := "len") (r := _) Rd.c_lenS (by rfl) T.n_len (by decide +kernel) (pa_cons (pv 4) pa_nil))) (fun _ _ => rfl)) (pa_cons (pv 2) pa_nil)))))
  pss_nil)))))
  (pss_one (ps_ret (pe_lc (own := [("row", 5)]) (g := gName 5) (tt := tYes) rfl sc_links_of.nd (pi_list (pv 3)) (blkOk_by (own := [("row", 5)]) (N := ["watches", "word", "spot", "found", "watch", "row"]) (sc := defScope s_links_of) (by decide +kernel)) (fun _ _ _ _ _ => (pg_name (i := 5) sc_links_of.nd rfl (.inl rfl))) (fun _ _ _ _ _ => pts_nil) (fun _ _ _ _ _ => (pe_callB (id := "sorted") (r := rSortedI K) cr_sortedI (by rfl) T.n_sorted (by decide +kernel) (pa_cons (pv 5) pa_nil)))))))), ?_⟩
    have zl : z.length ≤ sizeLine := by rw [sizeLine_eq]; omega
    walk_at "rd"
    refine Rd.lenStr zl ?_
    walk_at "rd"
    refine ⟨by omega, by omega, ?_⟩
    rw [show ((z.length : Int) + 1).toNat = z.length + 1 by omega]
    refine Rd.lcS walk_range (fun _ _ => trivial) (fun D i acc Hc => ∃ rs : List Addr, acc = rs.map V.ref ∧ rs.length = i ∧ rs.Nodup ∧ (∀ r ∈ rs, H r = none ∧ r ≠ D) ∧ ∀ r ∈ rs, Hc r = some (.lst [])) (fun _ _ _ _ _ => ⟨[], rfl, rfl, .nil, fun _ h => by simp at h, fun _ h => by simp at h⟩) ?_ ?_
    · rintro D i x G _ acc nD hi hD sm ⟨rs, rfl, ln, nd, h1, h2⟩ ⟨rfl, rfl⟩
      walk_at "rd"
      refine ⟨rfl, Rd.tyes ?_⟩
      walk_at "rd"
      refine ⟨Nat.zero_le _, Rd.new fun r G1 nr gr s1 => ?_⟩
      refine Rd.lcPush (s1 _ _ hD) nD (sm.trans s1) (by rw [List.length_map, ln, sizeLine_eq]; omega) fun G2 g2 off2 => ?_
      have rD : r ≠ D := (ne_of_none hD nr).symm
      have out : ∀ q ∈ rs, q ≠ r := fun q hq => ne_of_none (h2 q hq) nr
      refine ⟨rs ++ [r], by rw [List.map_append]; rfl, by rw [List.length_append, ln]; rfl, ?_, fun q hq => ?_, fun q hq => ?_⟩
      · rw [List.nodup_append]
        exact ⟨nd, by simp, fun q hq y hy e => out q hq (by simp at hy; rw [e, hy])⟩
      · rcases List.mem_append.mp hq with h | h
        · exact h1 q h
        · simp at h
          subst h
          exact ⟨sm.free nr, rD⟩
      · rcases List.mem_append.mp hq with h | h
        · rw [off2 q (h1 q h).2]
          exact s1 _ _ (h2 q h)
        · simp at h
          subst h
          rw [off2 q rD]
          exact gr
    · rintro f acc G nf hf sm ⟨rs, rfl, ln, nd, h1, h2⟩
      walk_at "rd"
      have sf0 : SoFar H G f rs z.length (fun _ => []) := ⟨sm, hf, ⟨nd, fun i r e => h2 r (List.mem_of_getElem? e)⟩, ln, h1⟩
      refine Ru.for_row (a := a) (xs := ws.map V.str) (fun Q q => ?_) (fun k σ H' => ∃ o1 o2 F, σ = [some (.ref a), some (.str z), o1, some (.ref f), o2, none] ∧ SoFar H H' f rs z.length F ∧ (∀ i, i ≤ z.length → ∀ x, x ∈ F i ↔ ∃ j : Nat, x = j ∧ Mw.Adj (ws.take k) z i j) ∧ ∀ i, (F i).length ≤ 2 * (k * (z.length + 1)) ∧ (ws.Nodup → (F i).Nodup)) hS
        ⟨_, _, _, rfl, sf0, fun i _ x => ⟨fun h => by simp at h, fun ⟨j, _, h⟩ => absurd h Mw.adj_nil⟩, fun i => ⟨Nat.zero_le _, fun _ => .nil⟩⟩ (fun i σ H' _ ⟨_, _, _, _, z, _⟩ => z.sm) ?_ ?_
      · walk_at "rd"
        exact q
      · rintro k x _ H' hx ⟨o1, o2, F, rfl, sf, hF, lF⟩
        obtain ⟨W, hW, rfl⟩ := Rd.map_strG hx
        have wl := hw W (List.mem_of_getElem? hW)
        have wz : W.length ≤ sizeLine := by rw [sizeLine_eq]; omega
        have kl : k < ws.length := (List.getElem?_eq_some_iff.mp hW).1
        walk_at "rd"
        refine Rd.forS ?_
        walk_at "rd"
        refine Rd.lenStr zl ?_
        walk_at "rd"
        refine Rd.lenStr wz ?_
        walk_at "rd"
        refine ⟨by omega, by omega, ?_⟩
        refine for_range (lo := 0) (n := ((z.length : Int) - (W.length : Int) + 1).toNat) (fun m σ H' => ∃ o1 F, σ = [some (.ref a), some (.str z), o1, some (.ref f), some (.str W), none] ∧ SoFar H H' f rs z.length F ∧ (∀ i, i ≤ z.length → ∀ x, x ∈ F i ↔ ∃ j : Nat, x = j ∧ Mw.AdjB (ws.take k) W z m i j) ∧ ∀ i, (F i).length ≤ 2 * (k * (z.length + 1) + m) ∧ (ws.Nodup → (F i).Nodup))
          ⟨_, F, rfl, sf, fun i hi x => (hF i hi x).trans (exists_congr fun j => and_congr_right fun _ => Mw.adjB_zero.symm), lF⟩ ?_ ?_
        · rintro m _ H1 hm ⟨o1, F, rfl, sf, hF, lF⟩
          have mz : m + W.length ≤ z.length := by omega
          have kz : k * (z.length + 1) ≤ 100 * 1001 := Nat.mul_le_mul (by omega) (by omega)
          have small : ∀ i, (F i).length < sizeLine := fun i => by have := (lF i).1; rw [sizeLine_eq]; omega
          walk_at "rd"
          rw [Int.zero_add]
          refine Rd.lenStr wz ?_
          walk_at "rd"
          refine Rd.slS zl ?_
          walk_at "rd"
          refine ite2 (fun q => ?_) (fun q => ?_)
          · have oc : Mw.Occ W z m := ⟨mz, q⟩
            walk_at "rd"
            obtain ⟨r, e1, e2, e3⟩ := sf.row (i := m) (by omega)
            refine Rd.ixL (.of sf.hf) e3 ?_
            refine Rd.tyL (.of e2) ?_
            walk_at "rd"
            refine Rd.lenStr wz ?_
            walk_at "rd"
            refine Rd.app e2 (by rw [List.length_map]; exact small m) fun G1 g1 off1 => ?_
            have sf1 := sf.put e1 g1 off1
            walk_at "rd"
            refine Rd.lenStr wz ?_
            walk_at "rd"
            obtain ⟨r', d1, d2, d3⟩ := sf1.row (i := m + W.length) mz
            rw [show ((m + W.length : Nat) : Int) = (m : Int) + (W.length : Int) by omega] at d3
            have ne : ¬ m + W.length = m := by omega
            rw [if_neg ne] at d2
            refine Rd.ixL (.of sf1.hf) d3 ?_
            refine Rd.tyL (.of d2) ?_
            walk_at "rd"
            refine Rd.app d2 (by rw [List.length_map]; exact small _) fun G2 g2 off2 => ?_
            have sf2 := sf1.put (x := (m : Int)) d1 (by rw [if_neg ne]; exact g2) off2
            walk_at "rd"
            have fr : ws.Nodup → ((m : Int) + (W.length : Int)) ∉ F m ∧ (m : Int) ∉ F (m + W.length) := fun nd => by
              have ⟨f1, f2⟩ := adj_fresh nd hW (fun W m => (hw W m).1) oc
              constructor
              · intro h
                obtain ⟨j, e, a⟩ := (hF m (by omega) _).mp h
                rw [show j = m + W.length by omega] at a
                exact f1 a
              · intro h
                obtain ⟨j, e, a⟩ := (hF (m + W.length) mz _).mp h
                rw [show j = m by omega] at a
                exact f2 a
            have ndp : ∀ {l : List Int} {x : Int}, l.Nodup → x ∉ l → (l ++ [x]).Nodup := fun h n => by
              rw [List.nodup_append]
              exact ⟨h, by simp, fun a ha b hb e => n (by simp at hb; rw [← hb, ← e]; exact ha)⟩
            refine ⟨_, _, rfl, sf2, fun i hi x => ?_, fun i => ?_⟩
            · have base := hF i hi x
              have yes : ∀ j, Mw.AdjB (ws.take k) W z (m + 1) i j ↔ Mw.AdjB (ws.take k) W z m i j ∨ (i = m ∧ j = m + W.length) ∨ (j = m ∧ i = m + W.length) := fun j => Mw.adjB_yes oc
              simp only [yes]
              by_cases c1 : i = m + W.length
              · subst c1
                rw [if_pos rfl, if_neg ne, List.mem_append, base]
                constructor
                · rintro (⟨j, h1, h2⟩ | h)
                  · exact ⟨j, h1, .inl h2⟩
                  · exact ⟨m, by simpa using h, .inr (.inr ⟨rfl, rfl⟩)⟩
                · rintro ⟨j, h1, h2 | ⟨h2, _⟩ | ⟨h2, _⟩⟩
                  · exact .inl ⟨j, h1, h2⟩
                  · omega
                  · exact .inr (by simp; omega)
              · rw [if_neg c1]
                by_cases c2 : i = m
                · subst c2
                  rw [if_pos rfl, List.mem_append, base]
                  constructor
                  · rintro (⟨j, h1, h2⟩ | h)
                    · exact ⟨j, h1, .inl h2⟩
                    · exact ⟨_, by simpa using h, .inr (.inl ⟨rfl, rfl⟩)⟩
                  · rintro ⟨j, h1, h2 | ⟨_, h2⟩ | ⟨_, h2⟩⟩
                    · exact .inl ⟨j, h1, h2⟩
                    · exact .inr (by simp; omega)
                    · omega
                · rw [if_neg c2, base]
                  constructor
                  · rintro ⟨j, h1, h2⟩
                    exact ⟨j, h1, .inl h2⟩
                  · rintro ⟨j, h1, h2 | ⟨h2, _⟩ | ⟨_, h2⟩⟩
                    · exact ⟨j, h1, h2⟩
                    · exact absurd h2 c2
                    · exact absurd h2 c1
            · have b1 := lF i
              have b2 := lF m
              have b3 := lF (m + W.length)
              refine ⟨?_, fun nd => ?_⟩
              rotate_left
              · show (if i = m + W.length then (if m + W.length = m then F m ++ [(m : Int) + (W.length : Int)] else F (m + W.length)) ++ [(m : Int)] else if i = m then F m ++ [(m : Int) + (W.length : Int)] else F i).Nodup
                rw [if_neg ne]
                split
                · exact ndp (b3.2 nd) (fr nd).2
                · split
                  · exact ndp (b2.2 nd) (fr nd).1
                  · exact b1.2 nd
              replace b1 := b1.1
              replace b2 := b2.1
              replace b3 := b3.1
              show (if i = m + W.length then (if m + W.length = m then F m ++ [(m : Int) + (W.length : Int)] else F (m + W.length)) ++ [(m : Int)] else if i = m then F m ++ [(m : Int) + (W.length : Int)] else F i).length ≤ _
              rw [if_neg ne]
              split
              · rw [List.length_append, List.length_singleton]; omega
              · split
                · rw [List.length_append, List.length_singleton]; omega
                · omega
          · have oc : ¬ Mw.Occ W z m := fun h => q h.2
            walk_at "rd"
            exact ⟨_, F, rfl, sf, fun i hi x => (hF i hi x).trans (exists_congr fun j => and_congr_right fun _ => (Mw.adjB_no oc).symm), fun i => ⟨by have := (lF i).1; omega, (lF i).2⟩⟩
        · rintro _ H1 ⟨o1, F, rfl, sf, hF, lF⟩
          walk_at "rd"
          refine ⟨_, _, F, rfl, sf, fun i hi x => (hF i hi x).trans (exists_congr fun j => and_congr_right fun _ => ?_), fun i => ?_⟩
          · rw [Rd.take_snoc hW]
            exact Mw.adjB_all (by omega)
          · refine ⟨?_, (lF i).2⟩
            have := (lF i).1
            have e : (k + 1) * (z.length + 1) = k * (z.length + 1) + (z.length + 1) := Nat.succ_mul _ _
            omega
      · rintro _ G1 ⟨o1, o2, F, rfl, sf, hF, lF⟩
        rw [List.length_map, List.take_length] at hF
        have big : ∀ i, (F i).length ≤ 1000000 := fun i => by
          have h1 := (lF i).1
          rw [List.length_map] at h1
          have h2 : ws.length * (z.length + 1) ≤ 100 * 1001 := Nat.mul_le_mul l1 (by omega)
          omega
        walk_at "rd"
        refine ⟨⟨_, .of sf.hf⟩, Rd.lcS walk_list (fun _ s => .of (s _ _ sf.hf)) (fun D i acc Hc => ∃ qs : List Addr, acc = qs.map V.ref ∧ qs.length = i ∧ (∀ q ∈ qs, q ≠ D ∧ H q = none) ∧ ∀ j q, qs[j]? = some q → ∃ ms : List Int, Hc q = some (.lst (ms.map V.int)) ∧ ms.Pairwise (· ≤ ·) ∧ ms.Perm (F j)) (fun _ _ _ _ _ => ⟨[], rfl, rfl, fun _ h => by simp at h, fun _ _ h => by simp at h⟩) ?_ ?_⟩
        · rintro D i x G2 _ acc nD hi hD sm2 ⟨qs, rfl, ql, qD, hq⟩ ⟨rfl, hx⟩
          obtain ⟨r, hr, rfl⟩ := Rd.map_refG hx
          walk_at "rd"
          refine ⟨rfl, Rd.tyes ?_⟩
          walk_at "rd"
          refine Rd.sortedI (.of (sm2 _ _ (sf.ro.2 i r hr))) fun ms p G3 pm ps gp s3 np => ?_
          have pD : p ≠ D := (ne_of_none hD np).symm
          refine Rd.lcPush (s3 _ _ hD) nD (sm2.trans s3) (by rw [List.length_map, ql, sizeLine_eq]; rw [List.length_map, ln] at hi; omega) fun G4 g4 off4 => ?_
          refine ⟨qs ++ [p], by rw [List.map_append]; rfl, by rw [List.length_append, ql]; rfl, fun q h => ?_, fun j q h => ?_⟩
          · rcases List.mem_append.mp h with h | h
            · exact qD q h
            · simp at h
              rw [h]
              exact ⟨pD, sf.sm.free (sm2.free np)⟩
          · rcases Nat.lt_or_ge j qs.length with l | l
            · rw [List.getElem?_append_left l] at h
              obtain ⟨ms', h1, h2, h3⟩ := hq j q h
              exact ⟨ms', by rw [off4 q (qD q (List.mem_of_getElem? h)).1]; exact s3 _ _ h1, h2, h3⟩
            · rw [List.getElem?_append_right l] at h
              have e : j = i := by
                have := (List.getElem?_eq_some_iff.mp h).1
                simp at this
                omega
              subst e
              rw [ql, Nat.sub_self] at h
              cases h
              exact ⟨ms, by rw [off4 _ pD]; exact gp, ps, pm⟩
        · rintro D acc G2 nD hD sm2 ⟨qs, rfl, ql, qD, hq⟩
          rw [List.length_map, ln] at ql
          refine k D G2 ⟨qs, .of hD, ql, fun i q h => ?_⟩ (sf.sm.trans sm2) (sf.sm.free nD) fun nd => ⟨qs, .of hD, ql, fun i q h => ?_⟩
          · obtain ⟨ms, h1, h2, h3⟩ := hq i q h
            exact ⟨ms, .of h1, ⟨h2, by rw [h3.length_eq]; exact big i⟩, fun x => h3.mem_iff.trans (hF i (by have := (List.getElem?_eq_some_iff.mp h).1; omega) x)⟩
          · obtain ⟨ms, h1, h2, h3⟩ := hq i q h
            exact ⟨ms, .of h1, sorted_lt h2 (h3.nodup_iff.mpr ((lF i).2 nd)), ⟨h1, (qD q (List.mem_of_getElem? h)).2⟩, fun x => h3.mem_iff.trans (hF i (by have := (List.getElem?_eq_some_iff.mp h).1; omega) x)⟩

end
end W

namespace W
open PySem PySem.Spec PyProof.Rows L2
section
variable {P : Program} {w : World} {K : PySem.W.Frag} {mg : Str → Option Value} {base : Heap}
/-! ### grown: all that is led to -/
def sp_grown (K : PySem.W.Frag) : Sp := fun vs H Q _ => ∃ (p q : Addr) (n : Nat) (A : Nat → Nat → Prop) (ss : List Int), vs = [.ref p, .ref q] ∧ Links K H p n A ∧ SqL K H q (ss.map V.int) ∧ n ≤ 1000 ∧ (∀ i j, A i j → j ≤ n) ∧ ss.Nodup ∧ (∀ s ∈ ss, 0 ≤ s ∧ s ≤ n) ∧
  ∀ (r : Addr) (gs : List Int) H', H' r = some (.lst (gs.map V.int)) → gs.Nodup → (∀ x, x ∈ gs ↔ ∃ i : Nat, x = i ∧ ∃ s : Nat, (s : Int) ∈ ss ∧ Mw.Star A s i) → Same H H' → H r = none → Q (.ref r) H'
theorem ok_grown (T : Txt K mg) : FnOk P w K mg base CX0 1 T.f_grown T.fd_grown ["links", "spots"] (sp_grown K) := by
  refine T.F_grown.ok sc_grown (fun vs H Q E h => ?_) (fun cdv A outer s H vs Q E hr h => ?_)
  · obtain ⟨p, q, n, A, ss, rfl, _⟩ := h
    rfl
  · obtain ⟨p, q, n, A, ss, rfl, hL, hq, hn, hA, nd, hs, k⟩ := h
    refine ⟨_, (pss_cons (ps_set (i := 2) sc_grown.nd rfl (.inl rfl) (pe_callTy (T := "list") (r := Rd.nListOf K) Rd.c_listOf (by rfl) T.n_list (by decide +kernel) (pa_cons (pv 1) pa_nil)))
  (pss_cons (ps_set (i := 3) sc_grown.nd rfl (.inl rfl) pe_int)
  (pss_cons (ps_while PassesOwn.never (pt_cmpR op_lt (pv 3) (pe_callB (id := "len") (r := Rd.nLen K) Rd.c_len (by rfl) T.n_len (by decide +kernel) (pa_cons (pv 2) pa_nil)) (nomark _))
  (pss_cons (ps_for PassesOwn.never rfl (pi_list (pe_ix (r := rIxL K) ix_list (pv 0) (pe_ix (r := rIxL K) ix_list (pv 2) (pv 3) (fun _ _ => rfl)) (fun _ _ => rfl))) (pg_name (i := 4) sc_grown.nd rfl (.inl rfl))
  (pss_one (ps_if (pt_cmpR (r := rIn K true) op_notIn_seq (pv 4) (pv 2) (by rfl))
  (pss_one (ps_expr (pe_bm PySem.F.plainAttrs_list PySem.F.slot_list_append PySem.F.type_list_append mt_append (pv 2) (pa_cons (pv 4) pa_nil))))
  pss_nil)))
  (pss_one (ps_aug (i := 3) sc_grown.nd rfl (.inl rfl) pe_int ip_add))))
  (pss_one (ps_ret (pv 2)))))), ?_⟩
    walk_at "rd"
    refine Rd.listOf (.inl hq) (Rd.new fun f G nf gf sG => ?_)
    walk_at "rd"
    obtain ⟨rs, hp, rl, hr⟩ := hL
    refine Rd.whl (fun m σ H' => ∃ (gs : List Int) (at_ : Nat) (o : Option V), σ = [some (.ref p), some (.ref q), some (.ref f), some (.int at_), o] ∧ H' f = some (.lst (gs.map V.int)) ∧ Same H H' ∧ gs.Nodup ∧ (∀ x ∈ gs, ∃ i : Nat, x = i ∧ i ≤ n ∧ ∃ s : Nat, (s : Int) ∈ ss ∧ Mw.Star A s i) ∧ (∀ x ∈ ss, x ∈ gs) ∧ at_ ≤ gs.length ∧ (∀ (k : Nat) (i j : Nat), k < at_ → gs[k]? = some (i : Int) → A i j → (j : Int) ∈ gs) ∧ m = n + 1 - at_)
      ⟨n + 1, ss, 0, none, rfl, gf, sG, nd, fun x hx => ⟨x.toNat, by have := hs x hx; omega, by have := hs x hx; omega, x.toNat, by have := hs x hx; rw [show ((x.toNat : Nat) : Int) = x by omega]; exact hx, .refl⟩, fun x h => h, Nat.zero_le _, fun k i j h => by omega, rfl⟩ ?_
    rintro m _ H1 ⟨gs, at_, o, rfl, hf, sm, gnd, hg, hss, la, cl, rfl⟩
    have gl : gs.length ≤ n + 1 := Mw.nodup_range gnd fun x hx => by obtain ⟨i, e, l, _⟩ := hg x hx; omega
    walk_at "rd"
    refine Rd.len (.inl (.of hf)) ?_
    rw [List.length_map]
    walk_at "rd"
    refine ite2 (fun c => ?_) (fun c => ?_)
    · refine Rd.whN ?_
      walk_at "rd"
      have al : at_ < gs.length := by omega
      obtain ⟨i, ei, il, si⟩ := hg _ (List.getElem_mem al)
      have hrow : i < rs.length := by omega
      obtain ⟨ms, m1, _, m2⟩ := hr i _ (List.getElem?_eq_getElem hrow)
      refine Rd.forS ?_
      walk_at "rd"
      refine Rd.ixL (.of hf) (atI_nat (Rd.map_int al)) ?_
      refine Rd.ixL (sm.seq hp) (by rw [ei]; exact atI_nat (Rd.map_ref hrow)) ?_
      walk_at "rd"
      refine ⟨⟨_, sm.seq m1⟩, for_list (K := K) (a := rs[i]) (xs := ms.map V.int) (fun t σ H' => ∃ (gs' : List Int) (o : Option V), σ = [some (.ref p), some (.ref q), some (.ref f), some (.int at_), o] ∧ H' f = some (.lst (gs'.map V.int)) ∧ Same H H' ∧ gs'.Nodup ∧ (∀ x ∈ gs', ∃ i : Nat, x = i ∧ i ≤ n ∧ ∃ s : Nat, (s : Int) ∈ ss ∧ Mw.Star A s i) ∧ (∃ ex, gs' = gs ++ ex) ∧ ∀ x ∈ ms.take t, x ∈ gs')
        ⟨gs, _, rfl, hf, sm, gnd, hg, ⟨[], by simp⟩, fun x h => by simp at h⟩ (fun t σ H' _ ⟨_, _, _, _, s, _⟩ => s.seq m1) ?_ ?_⟩
      · rintro t y0 _ H2 hy0 ⟨gs', o, rfl, hf2, sm2, gnd2, hg2, ⟨ex, he⟩, ht⟩
        obtain ⟨y, hy, rfl⟩ := Rd.map_get hy0
        obtain ⟨j, ej, aj⟩ := (m2 y).mp (List.mem_of_getElem? hy)
        have gl2 : gs'.length ≤ n + 1 := Mw.nodup_range gnd2 fun x hx => by obtain ⟨i, e, l, _⟩ := hg2 x hx; omega
        walk_at "rd"
        refine Rd.inIntsN (.inl (.of hf2)) ?_
        walk_at "rd"
        refine ite2 (fun c2 => ?_) (fun c2 => ?_)
        · walk_at "rd"
          refine ⟨gs', _, rfl, hf2, sm2, gnd2, hg2, ⟨ex, he⟩, fun x hx => ?_⟩
          rw [Rd.take_snoc hy] at hx
          rcases List.mem_append.mp hx with h | h
          · exact ht x h
          · simp at h
            rw [h]
            exact c2
        · walk_at "rd"
          refine Rd.tyL (.of hf2) ?_
          walk_at "rd"
          refine Rd.app hf2 (by rw [List.length_map, sizeLine_eq]; omega) fun G3 g3 off3 => ?_
          walk_at "rd"
          refine ⟨gs' ++ [y], _, rfl, by rw [List.map_append]; exact g3, fun b o e => ?_, ?_, fun x hx => ?_, ⟨ex ++ [y], by rw [he, List.append_assoc]⟩, fun x hx => ?_⟩
          · rw [off3 b (ne_of_none e nf)]
            exact sm2 b o e
          · rw [List.nodup_append]
            exact ⟨gnd2, by simp, fun x hx z hz e => c2 (by simp at hz; rw [← hz, ← e]; exact hx)⟩
          · rcases List.mem_append.mp hx with h | h
            · exact hg2 x h
            · simp at h
              obtain ⟨s, h1, h2⟩ := si
              exact ⟨j, by rw [h, ej], hA _ _ aj, s, h1, .step h2 aj⟩
          · rw [Rd.take_snoc hy] at hx
            rcases List.mem_append.mp hx with h | h
            · exact List.mem_append.mpr (.inl (ht x h))
            · exact List.mem_append.mpr (.inr h)
      · rintro _ H2 ⟨gs', o, rfl, hf2, sm2, gnd2, hg2, ⟨ex, he⟩, ht⟩
        rw [List.length_map, List.take_length] at ht
        have gl2 : gs'.length ≤ n + 1 := Mw.nodup_range gnd2 fun x hx => by obtain ⟨i, e, l, _⟩ := hg2 x hx; omega
        have lex : gs'.length = gs.length + ex.length := by rw [he, List.length_append]
        walk_at "rd"
        refine ⟨n + 1 - (at_ + 1), by omega, gs', at_ + 1, o, by rw [Int.natCast_add]; rfl, hf2, sm2, gnd2, hg2, fun x hx => by rw [he]; exact List.mem_append.mpr (.inl (hss x hx)), by omega, fun k i' j hk e a => ?_, rfl⟩
        · have kl : k < gs.length := by omega
          have e' : gs[k]? = some (i' : Int) := by
            rw [he, List.getElem?_append_left kl] at e
            exact e
          rcases Nat.lt_succ_iff_lt_or_eq.mp hk with l | l
          · rw [he]
            exact List.mem_append.mpr (.inl (cl k i' j l e' a))
          · subst l
            have : (i' : Int) = (i : Int) := by
              rw [List.getElem?_eq_getElem al] at e'
              rw [← ei]
              exact (Option.some.inj e').symm
            have : i' = i := by omega
            subst this
            exact ht _ ((m2 _).mpr ⟨j, rfl, a⟩)
    · walk_at "rd"
      have e : at_ = gs.length := by omega
      refine k f gs H1 hf gnd (fun x => ⟨fun hx => ?_, ?_⟩) sm nf
      · obtain ⟨i, e1, _, s, h1, h2⟩ := hg x hx
        exact ⟨i, e1, s, h1, h2⟩
      · rintro ⟨i, rfl, s, h1, h2⟩
        induction h2 with
        | refl => exact hss _ h1
        | step _ a ih =>
          obtain ⟨k, hk, e2⟩ := List.getElem_of_mem ih
          exact cl k _ _ (by omega) (by rw [List.getElem?_eq_getElem hk, e2]) a

/-! ### leads, leads_all, tells -/
def sp_leads (K : PySem.W.Frag) : Sp := fun vs H Q _ => ∃ (a : Addr) (ws : List Str) (z : Str), vs = [.ref a, .str z] ∧ Ru.SqR K H a (ws.map V.str) ∧ (∀ W ∈ ws, 1 ≤ W.length ∧ W.length ≤ 1000) ∧ ws.length ≤ 100 ∧ z.length ≤ 1000 ∧ ∀ (b : Bool) H', Same H H' → (b = true ↔ Mw.Told ws z) → Q (.bl b) H'
def sp_leads_all (K : PySem.W.Frag) : Sp := fun vs H Q _ => ∃ (a b : Addr) (ws zs : List Str), vs = [.ref a, .ref b] ∧ Ru.SqR K H a (ws.map V.str) ∧ (∀ W ∈ ws, 1 ≤ W.length ∧ W.length ≤ 1000) ∧ ws.length ≤ 100 ∧ Ru.SqR K H b (zs.map V.str) ∧ (∀ z ∈ zs, z.length ≤ 1000) ∧ zs.length ≤ 1000 ∧ ∀ (b : Bool) H', Same H H' → (b = true ↔ ∀ z ∈ zs, Mw.Told ws z) → Q (.bl b) H'
theorem ok_leads (T : Txt K mg) : FnOk P w K mg base CX0 2 T.f_leads T.fd_leads ["watches", "word"] (sp_leads K) := by
  refine T.F_leads.ok sc_leads (fun vs H Q E h => ?_) (fun cdv A outer s H vs Q E hr h => ?_)
  · obtain ⟨a, ws, z, rfl, _⟩ := h
    rfl
  · obtain ⟨a, ws, z, rfl, hS, hw, l1, l2, k⟩ := h
    refine ⟨_, (pss_one (ps_ret (pe_cmpR (r := rIn K false) op_in_seq (pe_callB (id := "len") (r := _) Rd.c_lenS (by rfl) T.n_len (by decide +kernel) (pa_cons (pv 1) pa_nil)) (pe_call (ok_grown T) (hr.mono (by decide)) rfl T.g_grown T.F_grown.kp T.b_grown .nil pass0 (pa_cons (pe_call (ok_links_of T) (hr.mono (by decide)) rfl T.g_links_of T.F_links_of.kp T.b_links_of .nil pass0 (pa_cons (pv 0) (pa_cons (pv 1) pa_nil))) (pa_cons (pe_lst (pa_cons pe_int pa_nil)) pa_nil))) (by rfl)))), ?_⟩
    walk_at "rd"
    refine Rd.lenStr (by rw [sizeLine_eq]; omega) ?_
    walk_at "rd"
    refine ⟨a, ws, z, rfl, hS, hw, l1, l2, fun p H1 hL s1 _ _ => ?_⟩
    walk_at "rd"
    refine ⟨Nat.le_of_ble_eq_true rfl, Rd.new fun q G2 nq gq s2 => ?_⟩
    refine ⟨p, q, z.length, Mw.Adj ws z, [0], rfl, hL.same s2, .of gq, l2, fun i j h => h.le.2, by simp, fun s h => by simp at h; omega, fun r gs H3 hr gnd hg s3 _ => ?_⟩
    refine Rd.inIntsY (.inl (.of hr)) ?_
    refine k _ _ ((s1.trans s2).trans s3) ?_
    rw [decide_eq_true_iff, hg]
    constructor
    · rintro ⟨i, e, s, hs, h⟩
      have e1 : i = z.length := by omega
      have e2 : s = 0 := by simp at hs; omega
      subst e1 e2
      exact h
    · intro h
      exact ⟨z.length, rfl, 0, by simp, h⟩
theorem all_told {ws : List Str} : ∀ (zs : List Str) (bs : List Bool), bs.length = zs.length → (∀ (i : Nat) z b, zs[i]? = some z → bs[i]? = some b → (b = true ↔ Mw.Told ws z)) → (bs.all id = true ↔ ∀ z ∈ zs, Mw.Told ws z)
  | [], [], _, _ => by simp
  | z :: zs, b :: bs, l, h => by
    have h0 := h 0 z b rfl rfl
    have ih := all_told zs bs (by simpa using l) fun i z b e1 e2 => h (i + 1) z b (by simpa using e1) (by simpa using e2)
    rw [List.all_cons, Bool.and_eq_true, List.forall_mem_cons, ← ih, ← h0]
    rfl
theorem ok_leads_all (T : Txt K mg) : FnOk P w K mg base CX0 3 T.f_leads_all T.fd_leads_all ["watches", "words"] (sp_leads_all K) := by
  refine T.F_leads_all.ok sc_leads_all (fun vs H Q E h => ?_) (fun cdv A outer s H vs Q E hr h => ?_)
  · obtain ⟨a, b, ws, zs, rfl, _⟩ := h
    rfl
  · obtain ⟨a, b, ws, zs, rfl, hS, hw, l1, hz, lz, l2, k⟩ := h
    refine ⟨_, (pss_one (ps_ret (pe_callB (id := "all") (r := rAll K) (cr_all rfl) (by rfl) T.n_all (by decide +kernel) (pa_cons (pe_lc (own := [("word", 2)]) (g := gName 2) (tt := tYes) rfl sc_leads_all.nd (Ru.pi_or (pi_list (pv 1)) (pi_tup (pv 1))) (blkOk_by (own := [("word", 2)]) (N := ["watches", "words", "word"]) (sc := defScope s_leads_all) (by decide +kernel)) (fun _ _ _ _ _ => (pg_name (i := 2) sc_leads_all.nd rfl (.inl rfl))) (fun _ _ _ _ _ => pts_nil) (fun _ _ _ _ _ => (pe_call (ok_leads T) (hr.mono (by decide)) rfl T.g_leads T.F_leads.kp T.b_leads .nil pass0 (pa_cons (pv 0) (pa_cons (pv 2) pa_nil))))) pa_nil)))), ?_⟩
    walk_at "rd"
    refine Rd.lcRow (a := b) (fun R q => ?_) hz (fun D i acc Hc => ∃ bs : List Bool, acc = bs.map V.bl ∧ bs.length = i ∧ ∀ (j : Nat) z b, zs[j]? = some z → bs[j]? = some b → (b = true ↔ Mw.Told ws z)) (fun _ _ _ _ _ => ⟨[], rfl, rfl, fun _ _ _ _ h => by simp at h⟩) ?_ ?_
    · walk_at "rd"
      exact q
    · rintro D i x H1 acc nD hi hD sm ⟨bs, rfl, bl, hb⟩ hx
      obtain ⟨z, hzi, rfl⟩ := Rd.map_strG hx
      walk_at "rd"
      refine ⟨rfl, Rd.tyes ?_⟩
      walk_at "rd"
      refine ⟨a, ws, z, rfl, hS.same sm, hw, l1, lz z (List.mem_of_getElem? hzi), fun b1 H2 s2 e => ?_⟩
      refine Rd.lcPush (s2 _ _ hD) nD (sm.trans s2) (by rw [List.length_map, bl, sizeLine_eq]; rw [List.length_map] at hi; omega) fun G2 g2 off2 => ?_
      refine ⟨bs ++ [b1], by rw [List.map_append]; rfl, by rw [List.length_append, bl]; rfl, fun j z' b' e1 e2 => ?_⟩
      rcases Nat.lt_or_ge j bs.length with l | l
      · rw [List.getElem?_append_left l] at e2
        exact hb j z' b' e1 e2
      · rw [List.getElem?_append_right l] at e2
        have ej : j = i := by
          have := (List.getElem?_eq_some_iff.mp e2).1
          simp at this
          omega
        subst ej
        rw [bl, Nat.sub_self] at e2
        rw [hzi] at e1
        cases e1
        cases e2
        exact e
    · rintro D acc H1 nD hD sm ⟨bs, rfl, bl, hb⟩
      rw [List.length_map] at bl
      refine Rd.all (.of hD) ?_
      exact k _ _ sm (all_told zs bs bl hb)
end
end W

namespace W
open PySem PySem.Spec PyProof.Rows L2
section
variable {P : Program} {w : World} {K : PySem.W.Frag} {mg : Str → Option Value} {base : Heap}
/-! ### distances, the least of the shortest ways -/
def ov : Option Nat → V
  | none => .non
  | some d => .int (d : Nat)
def Fl (L : List V) (F : Nat → Option Nat) (n : Nat) : Prop := L.length = n + 1 ∧ ∀ i, i ≤ n → L[i]? = some (ov (F i))
theorem Fl.get {L : List V} {F : Nat → Option Nat} {n i : Nat} (h : Fl L F n) (hi : i ≤ n) : atI L (i : Int) = some (ov (F i)) := atI_nat (h.2 i hi)
theorem Fl.set {L : List V} {F : Nat → Option Nat} {n i d : Nat} (h : Fl L F n) (hi : i ≤ n) : Fl (L.set i (.int (d : Nat))) (fun j => if j = i then some d else F j) n := by
  refine ⟨by rw [List.length_set]; exact h.1, fun j hj => ?_⟩
  rw [List.getElem?_set]
  by_cases c : i = j
  · rw [if_pos c, if_pos (by have := h.1; omega)]
    show some (V.int (d : Nat)) = some (ov (if j = i then some d else F j))
    rw [if_pos c.symm]
    rfl
  · rw [if_neg c]
    show L[j]? = some (ov (if j = i then some d else F j))
    rw [if_neg (fun e : j = i => c e.symm)]
    exact h.2 j hj
theorem rep_non (k : Nat) : (List.replicate k [V.non]).flatten = List.replicate k V.non := by
  induction k with
  | zero => rfl
  | succ k ih => rw [List.replicate_succ, List.flatten_cons, ih, List.replicate_succ]; rfl
def sp_distances (K : PySem.W.Frag) : Sp := fun vs H Q _ => ∃ (p : Addr) (n : Nat) (A : Nat → Nat → Prop), vs = [.ref p] ∧ Links K H p n A ∧ n ≤ 1000 ∧ (∀ i j, A i j → j ≤ n) ∧
  ∀ (l : Addr) (L : List V) (F : Nat → Option Nat) H', H' l = some (.lst L) → Fl L F n → (∀ i, i ≤ n → ∀ d, F i = some d ↔ Mz.Dist A n i d) → Same H H' → H l = none → Q (.ref l) H'
theorem ok_distances (T : Txt K mg) : FnOk P w K mg base CX0 1 T.f_distances T.fd_distances ["links"] (sp_distances K) := by
  refine T.F_distances.ok sc_distances (fun vs H Q E h => ?_) (fun cdv A outer s H vs Q E hr h => ?_)
  · obtain ⟨p, n, A, rfl, _⟩ := h
    rfl
  · obtain ⟨p, n, A, rfl, hL, hn, hA, k⟩ := h
    refine ⟨_, (pss_cons (ps_set (i := 1) sc_distances.nd rfl (.inl rfl) (pe_op op_rep (pe_lst (pa_cons pe_non pa_nil)) (pe_callB (id := "len") (r := Rd.nLen K) Rd.c_len (by rfl) T.n_len (by decide +kernel) (pa_cons (pv 0) pa_nil))))
  (pss_cons (ps_asg pe_int (pg_sub (pv 1) (pe_un un_neg pe_int) set_list))
  (pss_cons (ps_set (i := 2) sc_distances.nd rfl (.inl rfl) (pe_lst (pa_cons (pe_op op_sub (pe_callB (id := "len") (r := Rd.nLen K) Rd.c_len (by rfl) T.n_len (by decide +kernel) (pa_cons (pv 0) pa_nil)) pe_int) pa_nil)))
  (pss_cons (ps_while PassesOwn.never (pt_cmpR op_gt (pe_callB (id := "len") (r := Rd.nLen K) Rd.c_len (by rfl) T.n_len (by decide +kernel) (pa_cons (pv 2) pa_nil)) pe_int (nomark _))
  (pss_cons (ps_set (i := 3) sc_distances.nd rfl (.inl rfl) (pe_lst pa_nil))
  (pss_cons (ps_for PassesOwn.never rfl (pi_list (pv 2)) (pg_name (i := 4) sc_distances.nd rfl (.inl rfl))
  (pss_one (ps_for PassesOwn.never rfl (pi_list (pe_ix (r := rIxL K) ix_list (pv 0) (pv 4) (fun _ _ => rfl))) (pg_name (i := 5) sc_distances.nd rfl (.inl rfl))
  (pss_one (ps_if (pt_cmpR op_isN (pe_ix (r := rIxL K) ix_list (pv 1) (pv 5) (fun _ _ => rfl)) pe_non (nomark _))
  (pss_cons (ps_asg (pe_op op_add (pe_ix (r := rIxL K) ix_list (pv 1) (pv 4) (fun _ _ => rfl)) pe_int) (pg_sub (pv 1) (pv 5) set_list))
  (pss_one (ps_expr (pe_bm PySem.F.plainAttrs_list PySem.F.slot_list_append PySem.F.type_list_append mt_append (pv 3) (pa_cons (pv 5) pa_nil)))))
  pss_nil)))))
  (pss_one (ps_set (i := 2) sc_distances.nd rfl (.inl rfl) (pv 3))))))
  (pss_one (ps_ret (pv 1))))))), ?_⟩
    obtain ⟨rs, hp, rl, hr⟩ := hL
    walk_at "rd"
    refine ⟨Nat.le_of_ble_eq_true rfl, Rd.new fun e0 G0 ne0 ge0 s0 => ?_⟩
    walk_at "rd"
    refine Rd.len (.inl (s0.seq hp)) ?_
    rw [List.length_map, rl]
    refine Rd.rep ge0 (by omega) (by omega) (by rw [sizeLine_eq]; show 1 * _ ≤ _; omega) (Rd.new fun f G1 nf gf s1 => ?_)
    rw [show ((n + 1 : Nat) : Int).toNat = n + 1 from rfl, rep_non] at gf
    walk_at "rd"
    refine Rd.setG gf (j := n) (by rw [List.length_replicate]; unfold ixN; rw [if_neg (by decide), if_pos (by omega)]; congr 1; omega) rfl fun G2 g2 off2 => ?_
    have s2 : Same H G2 := fun b o e => by
      rw [off2 b (ne_of_none (s0 _ _ e) nf)]
      exact s1 _ _ (s0 _ _ e)
    have nfH : H f = none := s0.free nf
    walk_at "rd"
    refine Rd.len (.inl (s2.seq hp)) ?_
    rw [List.length_map, rl]
    walk_at "rd"
    refine ⟨Nat.le_of_ble_eq_true rfl, Rd.new fun ra G3 nra gra s3 => ?_⟩
    have fl0 : Fl (List.replicate (n + 1) V.non |>.set n (.int ((0 : Nat) : Int))) (fun j => if j = n then some 0 else none) n := by
      refine Fl.set (F := fun _ => none) ⟨by rw [List.length_replicate], fun i hi => ?_⟩ (Nat.le_refl n)
      rw [List.getElem?_replicate, if_pos (by omega)]
      rfl
    walk_at "rd"
    refine Rd.whl (fun m σ H' => ∃ (k : Nat) (F : Nat → Option Nat) (L : List V) (ra : Addr) (xs : List Int) (o3 o4 o5 : Option V), σ = [some (.ref p), some (.ref f), some (.ref ra), o3, o4, o5] ∧ H' f = some (.lst L) ∧ Fl L F n ∧ H' ra = some (.lst (xs.map V.int)) ∧ Same H H' ∧ ra ≠ f ∧
        (∀ i, i ≤ n → ∀ d, F i = some d ↔ (Mz.Dist A n i d ∧ d ≤ k)) ∧ (∀ x, x ∈ xs ↔ ∃ i : Nat, x = i ∧ Mz.Dist A n i k) ∧ m = if xs = [] then 0 else n + 1 - k)
      ⟨_, 0, _, _, ra, [((n + 1 : Nat) : Int) - 1], none, none, none, rfl, s3 _ _ g2, fl0, gra, s2.trans s3, (ne_of_none g2 nra).symm, fun i hi d => ?_, fun x => ?_, rfl⟩ ?_
    · by_cases c : i = n
      · rw [if_pos c, c]
        constructor
        · intro h
          cases h
          exact ⟨Mz.Dist.zero, Nat.le_refl _⟩
        · rintro ⟨h, _⟩
          rw [h.inj Mz.Dist.zero]
      · rw [if_neg c]
        constructor
        · intro h
          cases h
        · rintro ⟨h, l⟩
          have : d = 0 := by omega
          subst this
          exact absurd (Mz.Dist.zero_iff.mp h) (fun e => c e.symm)
    · rw [List.mem_singleton]
      constructor
      · intro h
        exact ⟨n, by omega, Mz.Dist.zero⟩
      · rintro ⟨i, h, d⟩
        have := Mz.Dist.zero_iff.mp d
        omega
    rintro m _ H1 ⟨k0, F, L, ra, xs, o3, o4, o5, rfl, gf1, fl, gra1, s1', raf, hF, hxs, rfl⟩
    walk_at "rd"
    refine Rd.len (.inl (.of gra1)) ?_
    rw [List.length_map]
    walk_at "rd"
    refine ite2 (fun c => ?_) (fun c => ?_)
    · have xne : xs ≠ [] := fun e => by rw [e] at c; simp at c
      rw [if_neg xne]
      have kn : k0 ≤ n := by
        obtain ⟨x, hx⟩ := List.exists_mem_of_ne_nil _ xne
        obtain ⟨i, _, d⟩ := (hxs x).mp hx
        exact d.le hA (Nat.le_refl n)
      refine Rd.whN ?_
      walk_at "rd"
      refine ⟨Nat.zero_le _, Rd.new fun la G4 nla gla s4 => ?_⟩
      have nla1 : H la = none := s1'.free nla
      have laf : la ≠ f := (ne_of_none gf1 nla).symm
      have rala : ra ≠ la := ne_of_none gra1 nla
      have hpS : ∀ {H'}, Same H H' → SqL K H' p (rs.map V.ref) := fun s => s.seq hp
      walk_at "rd"
      refine Rd.forS ?_
      walk_at "rd"
      refine ⟨⟨_, .of (s4 _ _ gra1)⟩, for_list (K := K) (a := ra) (xs := xs.map V.int) (fun a σ H' => ∃ (F' : Nat → Option Nat) (L' : List V) (ys : List Int) (o4 o5 : Option V), σ = [some (.ref p), some (.ref f), some (.ref ra), some (.ref la), o4, o5] ∧ H' f = some (.lst L') ∧ Fl L' F' n ∧ H' la = some (.lst (ys.map V.int)) ∧ Same H H' ∧ H' ra = some (.lst (xs.map V.int)) ∧
          (∀ i d, i ≤ n → F i = some d → F' i = some d) ∧ (∀ i d, i ≤ n → F' i = some d → F i = some d ∨ (d = k0 + 1 ∧ (i : Int) ∈ ys)) ∧ ys.Nodup ∧ (∀ y ∈ ys, ∃ i : Nat, y = i ∧ i ≤ n ∧ F' i = some (k0 + 1) ∧ Mz.Dist A n i (k0 + 1)) ∧ ∀ s : Nat, (s : Int) ∈ xs.take a → ∀ i, A s i → F' i ≠ none)
        ⟨F, L, [], _, _, rfl, s4 _ _ gf1, fl, gla, s1'.trans s4, s4 _ _ gra1, fun i d _ h => h, fun i d _ h => .inl h, .nil, fun y h => by simp at h, fun s h => by simp at h⟩ (fun a σ H' _ ⟨_, _, _, _, _, _, _, _, _, _, g, _⟩ => .of g) ?_ ?_⟩
      · rintro a x0 _ H2 hx0 ⟨F1, L1, ys, o4, o5, rfl, gf2, fl1, gla2, sm2, gra2, hA1, hA2, nd, hys, cov⟩
        obtain ⟨x, hx, rfl⟩ := Rd.map_get hx0
        obtain ⟨s, rfl, ds⟩ := (hxs x).mp (List.mem_of_getElem? hx)
        have sn : s ≤ n := Mz.Steps.le hA (Nat.le_refl n) ds.1
        have hrow : s < rs.length := by omega
        obtain ⟨ms, m1, _, m2⟩ := hr s _ (List.getElem?_eq_getElem hrow)
        have Fs : F s = some k0 := (hF s sn k0).mpr ⟨ds, Nat.le_refl _⟩
        walk_at "rd"
        refine Rd.forS ?_
        walk_at "rd"
        refine Rd.ixL (hpS sm2) (atI_nat (Rd.map_ref hrow)) ?_
        walk_at "rd"
        refine ⟨⟨_, sm2.seq m1⟩, for_list (K := K) (a := rs[s]) (xs := ms.map V.int) (fun b σ H' => ∃ (F' : Nat → Option Nat) (L' : List V) (ys : List Int) (o5 : Option V), σ = [some (.ref p), some (.ref f), some (.ref ra), some (.ref la), some (.int (s : Int)), o5] ∧ H' f = some (.lst L') ∧ Fl L' F' n ∧ H' la = some (.lst (ys.map V.int)) ∧ Same H H' ∧ H' ra = some (.lst (xs.map V.int)) ∧
            (∀ i d, i ≤ n → F i = some d → F' i = some d) ∧ (∀ i d, i ≤ n → F' i = some d → F i = some d ∨ (d = k0 + 1 ∧ (i : Int) ∈ ys)) ∧ ys.Nodup ∧ (∀ y ∈ ys, ∃ i : Nat, y = i ∧ i ≤ n ∧ F' i = some (k0 + 1) ∧ Mz.Dist A n i (k0 + 1)) ∧ (∀ s : Nat, (s : Int) ∈ xs.take a → ∀ i, A s i → F' i ≠ none) ∧ ∀ i : Nat, (i : Int) ∈ ms.take b → F' i ≠ none)
          ⟨F1, L1, ys, _, rfl, gf2, fl1, gla2, sm2, gra2, hA1, hA2, nd, hys, cov, fun i h => by simp at h⟩ (fun b σ H' _ ⟨_, _, _, _, _, _, _, _, g, _⟩ => g.seq m1) ?_ ?_⟩
        · rintro b y0 _ H3 hy0 ⟨F2, L2, ys2, o5, rfl, gf3, fl2, gla3, sm3, gra3, hB1, hB2, nd2, hys2, cov2, cin⟩
          obtain ⟨y, hy, rfl⟩ := Rd.map_get hy0
          obtain ⟨i, rfl, ai⟩ := (m2 y).mp (List.mem_of_getElem? hy)
          have iN : i ≤ n := hA _ _ ai
          have ylen : ys2.length ≤ n + 1 := Mw.nodup_range nd2 fun v hv => by obtain ⟨j, e, l, _⟩ := hys2 v hv; omega
          walk_at "rd"
          refine Rd.ixL (.of gf3) (fl2.get iN) ?_
          walk_at "rd"
          refine ⟨rfl, ?_⟩
          walk_at "rd"
          refine ite2 (fun q => ?_) (fun q => ?_)
          · have Fi : F2 i = none := by
              cases e : F2 i with
              | none => rfl
              | some d => rw [e] at q; cases q
            have Fi0 : F i = none := by
              cases e : F i with
              | none => rfl
              | some d => have := hB1 i d iN e; rw [Fi] at this; cases this
            have di : Mz.Dist A n i (k0 + 1) := ds.next ai fun j hj d => by
              have := (hF i iN j).mpr ⟨d, hj⟩
              rw [Fi0] at this
              cases this
            walk_at "rd"
            refine Rd.ixL (v := .int ((k0 : Nat) : Int)) (.of gf3) (by rw [fl2.get sn, hB1 s k0 sn Fs]; rfl) ?_
            walk_at "rd"
            refine Rd.setG gf3 (j := i) (by rw [fl2.1]; exact Rd.ixN_of (i := (i : Int)) (by omega) (by omega)) rfl fun G5 g5 off5 => ?_
            have gla5 : G5 la = some (.lst (ys2.map V.int)) := by rw [off5 la laf]; exact gla3
            walk_at "rd"
            refine Rd.tyL (.of gla5) ?_
            walk_at "rd"
            refine Rd.app gla5 (by rw [List.length_map, sizeLine_eq]; omega) fun G6 g6 off6 => ?_
            walk_at "rd"
            have fl3 := fl2.set (d := k0 + 1) iN
            have iy : ¬ (i : Int) ∈ ys2 := fun h => by
              obtain ⟨j, e, _, h2, _⟩ := hys2 _ h
              have : i = j := by omega
              subst this
              rw [Fi] at h2
              cases h2
            refine ⟨_, _, ys2 ++ [(i : Int)], _, rfl, by rw [off6 f laf.symm]; exact g5, fl3, by rw [List.map_append]; exact g6, fun b o e => ?_, by rw [off6 ra rala, off5 ra raf]; exact gra3, fun j d jn h => ?_, fun j d jn h => ?_, ?_, fun v hv => ?_, fun s' hs j aj => ?_, fun j hj => ?_⟩
            · rw [off6 b (ne_of_none e nla1), off5 b (ne_of_none e nfH)]
              exact sm3 b o e
            · by_cases c : j = i
              · subst c
                rw [Fi0] at h
                cases h
              · rw [if_neg c]
                exact hB1 j d jn h
            · by_cases c : j = i
              · rw [if_pos c] at h
                cases h
                exact .inr ⟨rfl, List.mem_append.mpr (.inr (by rw [c]; simp))⟩
              · rw [if_neg c] at h
                exact (hB2 j d jn h).imp id fun ⟨h1, h2⟩ => ⟨h1, List.mem_append.mpr (.inl h2)⟩
            · exact snoc_nodup nd2 iy
            · rcases List.mem_append.mp hv with h | h
              · obtain ⟨j, e1, e2, e3, e4⟩ := hys2 v h
                refine ⟨j, e1, e2, ?_, e4⟩
                split
                · rfl
                · exact e3
              · simp at h
                exact ⟨i, h, iN, by rw [if_pos rfl], di⟩
            · split
              · exact fun h => nomatch h
              · exact cov2 s' hs j aj
            · split
              · exact fun h => nomatch h
              · rename_i c
                rw [Rd.take_snoc hy] at hj
                rcases List.mem_append.mp hj with h | h
                · exact cin j h
                · simp at h
                  exact absurd h (by omega)
          · walk_at "rd"
            refine ⟨F2, L2, ys2, _, rfl, gf3, fl2, gla3, sm3, gra3, hB1, hB2, nd2, hys2, cov2, fun j hj => ?_⟩
            rw [Rd.take_snoc hy] at hj
            rcases List.mem_append.mp hj with h | h
            · exact cin j h
            · simp at h
              have : j = i := by omega
              subst this
              intro e
              exact q (by rw [e]; rfl)
        · rintro _ H3 ⟨F2, L2, ys2, o5, rfl, gf3, fl2, gla3, sm3, gra3, hB1, hB2, nd2, hys2, cov2, cin⟩
          rw [List.length_map, List.take_length] at cin
          walk_at "rd"
          refine ⟨F2, L2, ys2, _, _, rfl, gf3, fl2, gla3, sm3, gra3, hB1, hB2, nd2, hys2, fun s' hs j aj => ?_⟩
          rw [Rd.take_snoc hx] at hs
          rcases List.mem_append.mp hs with h | h
          · exact cov2 s' h j aj
          · simp at h
            have : s' = s := by omega
            subst this
            exact cin j ((m2 _).mpr ⟨j, rfl, aj⟩)
      · rintro _ H2 ⟨F1, L1, ys, o4, o5, rfl, gf2, fl1, gla2, sm2, gra2, hA1, hA2, nd, hys, cov⟩
        rw [List.length_map, List.take_length] at cov
        walk_at "rd"
        have key : ∀ i, i ≤ n → ∀ d, F1 i = some d ↔ (Mz.Dist A n i d ∧ d ≤ k0 + 1) := fun i hi d => by
          constructor
          · intro h
            rcases hA2 i d hi h with h1 | ⟨rfl, h1⟩
            · have := (hF i hi d).mp h1
              exact ⟨this.1, by omega⟩
            · obtain ⟨j, e, _, _, dj⟩ := hys _ h1
              have : i = j := by omega
              subst this
              exact ⟨dj, Nat.le_refl _⟩
          · rintro ⟨h, l⟩
            by_cases c : d ≤ k0
            · exact hA1 i d hi ((hF i hi d).mpr ⟨h, c⟩)
            · have ed : d = k0 + 1 := by omega
              subst ed
              obtain ⟨s, hs, r⟩ := h.pred
              have := cov s ((hxs _).mpr ⟨s, rfl, hs⟩) i r
              cases e : F1 i with
              | none => exact absurd e this
              | some d' =>
                rcases hA2 i d' hi e with h1 | ⟨rfl, _⟩
                · have := ((hF i hi d').mp h1)
                  have e2 := this.1.inj h
                  omega
                · rfl
        have keyY : ∀ x, x ∈ ys ↔ ∃ i : Nat, x = i ∧ Mz.Dist A n i (k0 + 1) := fun x => by
          constructor
          · intro h
            obtain ⟨i, e, _, _, d⟩ := hys x h
            exact ⟨i, e, d⟩
          · rintro ⟨i, rfl, d⟩
            have hi : i ≤ n := Mz.Steps.le hA (Nat.le_refl n) d.1
            rcases hA2 i _ hi ((key i hi _).mpr ⟨d, Nat.le_refl _⟩) with h1 | ⟨_, h1⟩
            · have := ((hF i hi _).mp h1).2
              omega
            · exact h1
        refine ⟨if ys = [] then 0 else n + 1 - (k0 + 1), ?_, k0 + 1, F1, L1, la, ys, _, _, _, rfl, gf2, fl1, gla2, sm2, laf, key, keyY, rfl⟩
        split <;> omega
    · have xe : xs = [] := by
        cases xs with
        | nil => rfl
        | cons _ _ => exfalso; apply c; rw [List.length_cons]; omega
      subst xe
      walk_at "rd"
      refine k f L F H1 gf1 fl (fun i hi d => (hF i hi d).trans ⟨fun h => h.1, fun h => ⟨h, ?_⟩⟩) s1' nfH
      rcases Nat.lt_or_ge k0 d with l | l
      · obtain ⟨y, hy⟩ := h.all k0 (by omega)
        have := (hxs _).mpr ⟨y, rfl, hy⟩
        simp at this
      · exact l

end
end W

namespace W
open PySem PySem.Spec PyProof.Rows L2
section
variable {P : Program} {w : World} {K : PySem.W.Frag} {mg : Str → Option Value} {base : Heap}
/-! ### the least of the shortest zigzags -/
/-- what shortest answers -/
def Zig (H H' : Hp) (ws : List Str) (z : Str) (r : V) : Prop := (r = .non ∧ ¬ Mw.Told ws z) ∨ ∃ (q : Addr) (P : List Nat), r = .ref q ∧ H' q = some (.tup (natV P)) ∧ H q = none ∧ Mz.Gr (Mw.Adj ws z) z.length 0 P
theorem gr_told {A : Nat → Nat → Prop} {n x : Nat} {P : List Nat} (h : Mz.Gr A n x P) : Mw.Star A x n := by
  cases h with
  | stop => exact .refl
  | step hx _ _ _ _ => exact Mz.star_dist.mpr ⟨_, hx⟩
def sp_shortest (K : PySem.W.Frag) : Sp := fun vs H Q _ => ∃ (a : Addr) (ws : List Str) (z : Str), vs = [.ref a, .str z] ∧ Ru.SqR K H a (ws.map V.str) ∧ (∀ W ∈ ws, 1 ≤ W.length ∧ W.length ≤ 1000) ∧ ws.length ≤ 100 ∧ z.length ≤ 1000 ∧ ∀ (r : V) H', Same H H' → Zig H H' ws z r → Q r H'
def sp_zigzag (K : PySem.W.Frag) (C : Addr) : Sp := fun vs H Q _ => ∃ (a : Addr) (ws : List Str) (z : Str), vs = [.ref a, .str z] ∧ BookAt C H a ws ∧ Watches ws ∧ Lt.Wd 40 z ∧ ∀ (r : V) H', Same H H' → Zig H H' ws z r → Q r H'
theorem filt_step {α : Type} {l : List α} {i : Nat} {x : α} {f : α → Bool} (h : l[i]? = some x) : (l.take (i + 1)).filter f = (l.take i).filter f ++ if f x = true then [x] else [] := by
  rw [Rd.take_snoc h, List.filter_append]
  congr 1
  cases e : f x <;> simp [e]
theorem sorted_head {l : List Int} {f : Int → Bool} (hp : l.Pairwise (· ≤ ·)) {x : Int} (hx : x ∈ l) (fx : f x = true) : ∃ w r, l.filter f = w :: r ∧ ∀ v ∈ l, f v = true → w ≤ v := by
  have hm : x ∈ l.filter f := List.mem_filter.mpr ⟨hx, fx⟩
  have hs := hp.sublist (List.filter_sublist (l := l) (p := f))
  cases e : l.filter f with
  | nil => rw [e] at hm; simp at hm
  | cons w r =>
    rw [e] at hs
    refine ⟨w, r, rfl, fun v hv fv => ?_⟩
    have : v ∈ w :: r := by rw [← e]; exact List.mem_filter.mpr ⟨hv, fv⟩
    rcases List.mem_cons.mp this with rfl | h
    · exact Int.le_refl _
    · exact (List.pairwise_cons.mp hs).1 v h
theorem ok_shortest (T : Txt K mg) : FnOk P w K mg base CX0 2 T.f_shortest T.fd_shortest ["watches", "word"] (sp_shortest K) := by
  refine T.F_shortest.ok sc_shortest (fun vs H Q E h => ?_) (fun cdv A outer s H vs Q E hr h => ?_)
  · obtain ⟨a, ws, z, rfl, _⟩ := h
    rfl
  · obtain ⟨a, ws, z, rfl, hS, hw, l1, l2, k⟩ := h
    refine ⟨_, (pss_cons (ps_set (i := 2) sc_shortest.nd rfl (.inl rfl) (pe_call (ok_links_of T) (hr.mono (by decide)) rfl T.g_links_of T.F_links_of.kp T.b_links_of .nil pass0 (pa_cons (pv 0) (pa_cons (pv 1) pa_nil))))
  (pss_cons (ps_set (i := 3) sc_shortest.nd rfl (.inr rfl) (pe_call (ok_distances T) (hr.mono (by decide)) rfl T.g_distances T.F_distances.kp T.b_distances .nil pass0 (pa_cons (pv 2) pa_nil)))
  (pss_cons (ps_if (pt_cmpR op_isN (pe_ix (r := rIxL K) ix_list (pv 3) pe_int (fun _ _ => rfl)) pe_non (nomark _))
  (pss_one (ps_ret pe_non))
  pss_nil)
  (pss_cons (ps_set (i := 4) sc_shortest.nd rfl (.inl rfl) (pe_lst (pa_cons pe_int pa_nil)))
  (pss_cons (ps_while PassesOwn.never (pt_cmpR op_ne (pe_ix (r := rIxL K) ix_list (pv 4) (pe_un un_neg pe_int) (fun _ _ => rfl)) (pe_callB (id := "len") (r := _) Rd.c_lenS (by rfl) T.n_len (by decide +kernel) (pa_cons (pv 1) pa_nil)) (nomark _))
  (pss_cons (ps_set (i := 5) sc_shortest.nd rfl (.inr rfl) (pe_ix (r := rIxL K) ix_list (pv 4) (pe_un un_neg pe_int) (fun _ _ => rfl)))
  (pss_one (ps_expr (pe_bm PySem.F.plainAttrs_list PySem.F.slot_list_append PySem.F.type_list_append mt_append (pv 4) (pa_cons (pe_ix (r := rIxL K) ix_list (pe_lc (own := [("other", 6)]) (g := gName 6)  rfl sc_shortest.nd (pi_list (pe_ix (r := rIxL K) ix_list (pv 2) (pv 5) (fun _ _ => rfl))) (blkOk_by (own := [("other", 6)]) (N := ["watches", "word", "links", "far", "found", "spot", "other"]) (sc := defScope s_shortest) (by decide +kernel)) (fun _ _ _ _ _ => (pg_name (i := 6) sc_shortest.nd rfl (.inl rfl))) (fun _ _ _ _ _ => pts_one (pt_cmpR op_eq (pe_ix (r := rIxL K) ix_list (pv 3) (pv 6) (fun _ _ => rfl)) (pe_op op_sub (pe_ix (r := rIxL K) ix_list (pv 3) (pv 5) (fun _ _ => rfl)) pe_int) (nomark _))) (fun _ _ _ _ _ => (pv 6))) pe_int (fun _ _ => rfl)) pa_nil))))))
  (pss_one (ps_ret (pe_callTy (T := "tuple") (r := Rd.nTupOf K) Rd.c_tupOf (by rfl) T.n_tuple (by decide +kernel) (pa_cons (pv 4) pa_nil))))))))), ?_⟩
    walk_at "rd"
    refine ⟨a, ws, z, rfl, hS, hw, l1, l2, fun p H1 hL s1 _ _ => ?_⟩
    walk_at "rd"
    refine ⟨p, z.length, Mw.Adj ws z, rfl, hL, l2, fun i j h => h.le.2, fun l L F H2 gl fl hF s2 nl => ?_⟩
    have hsy : ∀ x y, Mw.Adj ws z x y → Mw.Adj ws z y x := fun x y h => Mw.Adj.symm x y h
    obtain ⟨rs, hp, rl, hr⟩ := hL.same s2
    have zl : z.length ≤ sizeLine := by rw [sizeLine_eq]; omega
    walk_at "rd"
    refine Rd.ixL (.of gl) (fl.get (i := 0) (Nat.zero_le _)) ?_
    walk_at "rd"
    refine ⟨rfl, ?_⟩
    walk_at "rd"
    refine ite2 (fun c => ?_) (fun c => ?_)
    · walk_at "rd"
      refine k _ _ (s1.trans s2) (.inl ⟨rfl, fun h => ?_⟩)
      obtain ⟨d, hd⟩ := Mz.star_dist.mp h
      have := (hF 0 (Nat.zero_le _) d).mpr (hd.symm hsy)
      rw [this] at c
      cases c
    · obtain ⟨d0, e0⟩ : ∃ d, F 0 = some d := by
        cases e : F 0 with
        | none => rw [e] at c; exact absurd rfl c
        | some d => exact ⟨d, rfl⟩
      have hd0 := (hF 0 (Nat.zero_le _) d0).mp e0
      walk_at "rd"
      refine ⟨Nat.le_of_ble_eq_true rfl, Rd.new fun g G ng gg sG => ?_⟩
      walk_at "rd"
      refine Rd.whl (fun m σ H' => ∃ (pre : List Nat) (cur : Nat) (o5 : Option V), σ = [some (.ref a), some (.str z), some (.ref p), some (.ref l), some (.ref g), o5, none] ∧ H' g = some (.lst (natV (pre ++ [cur]))) ∧ Same H2 H' ∧ cur ≤ z.length ∧ pre.length + m = d0 ∧ Mz.Dist (Mw.Adj ws z) z.length cur m ∧ ∀ P, Mz.Gr (Mw.Adj ws z) z.length cur P → Mz.Gr (Mw.Adj ws z) z.length 0 (pre ++ P))
        ⟨d0, [], 0, none, rfl, gg, sG, Nat.zero_le _, by simp, hd0, fun P h => h⟩ ?_
      rintro m _ H3 ⟨pre, cur, o5, rfl, gg3, s3, cn, pl, dc, gr⟩
      have last : atI (natV (pre ++ [cur])) (-1) = some (.int (cur : Int)) := by
        unfold natV
        rw [List.map_append, List.map_append]
        exact atI_last _ _
      walk_at "rd"
      refine Rd.ixL (.of gg3) last ?_
      walk_at "rd"
      refine Rd.lenStr zl ?_
      walk_at "rd"
      refine ite2 (fun c2 => ?_) (fun c2 => ?_)
      · have ec : cur = z.length := by omega
        subst ec
        walk_at "rd"
        refine Rd.tupOf (.of gg3) (Rd.new fun q G4 nq gq s4 => ?_)
        have s14 := ((s1.trans s2).trans s3).trans s4
        exact k _ _ s14 (.inr ⟨q, _, rfl, gq, ((s1.trans s2).trans s3).free nq, gr _ .stop⟩)
      · refine Rd.whN ?_
        have dn : Mz.Dist (Mw.Adj ws z) z.length z.length 0 := Mz.Dist.zero
        obtain ⟨m', rfl⟩ : ∃ m', m = m' + 1 := by
          cases m with
          | zero => exact absurd (Mz.Dist.zero_iff.mp dc) (fun e => c2 (by omega))
          | succ m' => exact ⟨m', rfl⟩
        have d0n : d0 ≤ z.length := hd0.le (fun i j h => h.le.2) (Nat.le_refl _)
        obtain ⟨y0, hy0, ry0⟩ := dc.pred
        have hrow : cur < rs.length := by omega
        obtain ⟨ms, m1, mp, m2⟩ := hr cur _ (List.getElem?_eq_getElem hrow)
        have Fc : F cur = some (m' + 1) := (hF cur cn _).mpr dc
        walk_at "rd"
        refine Rd.ixL (.of gg3) last ?_
        walk_at "rd"
        refine Rd.tyL (.of gg3) ?_
        walk_at "rd"
        refine Rd.ixL (s3.seq hp) (atI_nat (Rd.map_ref hrow)) ?_
        walk_at "rd"
        refine ⟨⟨_, s3.seq m1⟩, Rd.lcS walk_list (fun _ s => s.seq (s3.seq m1)) (fun D i acc Hc => acc = ((ms.take i).filter fun x => decide (F x.toNat = some m')).map V.int) (fun _ _ _ _ _ => rfl) ?_ ?_⟩
        · rintro D i x G1 _ acc nD hi hD sm rfl ⟨rfl, hx⟩
          obtain ⟨y, hy, rfl⟩ := Rd.map_get hx
          obtain ⟨j, rfl, aj⟩ := (m2 y).mp (List.mem_of_getElem? hy)
          have jn := aj.le.2
          have lim : ((((ms.take i).filter fun x => decide (F x.toNat = some m')).map V.int)).length < sizeLine := by
            rw [List.length_map, sizeLine_eq]
            have h1 := List.length_filter_le (fun x : Int => decide (F x.toNat = some m')) (ms.take i)
            rw [List.length_take] at h1
            have h2 := mp.2
            omega
          obtain ⟨e, hde⟩ : ∃ e, F j = some e := by
            obtain ⟨e, _, he⟩ := Mz.Steps.dist (A := Mw.Adj ws z) (x := z.length) (y := j) (k := m' + 1 + 1) ⟨cur, dc.1, aj⟩
            exact ⟨e, (hF j jn e).mpr he⟩
          have gl1 := sm _ _ (s3 _ _ gl)
          walk_at "rd"
          refine ⟨rfl, ?_⟩
          walk_at "rd"
          refine Rd.ixL (v := .int ((e : Nat) : Int)) (.of gl1) (by rw [fl.get jn, hde]; rfl) ?_
          walk_at "rd"
          refine Rd.ixL (v := .int ((m' + 1 : Nat) : Int)) (.of gl1) (by rw [fl.get cn, Fc]; rfl) ?_
          walk_at "rd"
          have st := filt_step (f := fun x : Int => decide (F x.toNat = some m')) hy
          rw [Int.toNat_natCast, hde] at st
          refine ite2 (fun q => ?_) (fun q => ?_)
          · have ee : e = m' := by omega
            subst ee
            rw [decide_eq_true rfl, if_pos rfl] at st
            walk_at "rd"
            refine Rd.lcPush hD nD sm lim fun G2 g2 off2 => ?_
            rw [st, List.map_append]
            rfl
          · have ee : ¬ some e = some m' := fun h => q (by cases h; omega)
            rw [decide_eq_false ee, if_neg Bool.false_ne_true, List.append_nil] at st
            walk_at "rd"
            refine ⟨_, hD, sm, ?_⟩
            dsimp only
            rw [st]
        · rintro D acc G1 nD hD sm rfl
          rw [List.length_map, List.take_length] at hD
          have yn : y0 ≤ z.length := Mz.Steps.le (fun i j h => h.le.2) (Nat.le_refl _) hy0.1
          obtain ⟨w, r, ef, hmin⟩ := sorted_head (f := fun x : Int => decide (F x.toNat = some m')) mp.1 ((m2 _).mpr ⟨y0, rfl, hsy _ _ ry0⟩) (by rw [Int.toNat_natCast]; exact decide_eq_true ((hF y0 yn _).mpr hy0))
          have wm : w ∈ ms.filter fun x : Int => decide (F x.toNat = some m') := by rw [ef]; exact List.mem_cons_self
          obtain ⟨wm1, wm2⟩ := List.mem_filter.mp wm
          obtain ⟨wi, rfl, aw⟩ := (m2 w).mp wm1
          rw [Int.toNat_natCast] at wm2
          have wn := aw.le.2
          have dw := (hF wi wn _).mp (of_decide_eq_true wm2)
          rw [ef] at hD
          walk_at "rd"
          refine Rd.ixL (.of hD) (atI_nat (j := 0) rfl) ?_
          walk_at "rd"
          refine Rd.app (sm _ _ gg3) (by unfold natV; rw [List.length_map, List.length_map, List.length_append, sizeLine_eq]; show _ + 1 < _; omega) fun G5 g5 off5 => ?_
          walk_at "rd"
          refine ⟨m', Nat.lt_succ_self _, pre ++ [cur], wi, _, rfl, ?_, fun b o e => ?_, wn, by rw [List.length_append]; show _ + 1 + _ = _; omega, dw, fun P h => ?_⟩
          · rw [g5]
            unfold natV
            simp
          · have bg : b ≠ g := ne_of_none e ng
            rw [off5 b bg]
            exact sm _ _ (s3 _ _ e)
          · rw [List.append_assoc]
            refine gr _ (.step (dc.symm hsy) aw (dw.symm hsy) (fun v av dv => ?_) h)
            have vn := av.le.2
            have := hmin (v : Int) ((m2 _).mpr ⟨v, rfl, av⟩) (by rw [Int.toNat_natCast]; exact decide_eq_true ((hF v vn _).mpr (dv.symm hsy)))
            omega
end
end W

namespace W
open PySem PySem.Spec PyProof.Rows L2
section
variable {P : Program} {w : World} {K : PySem.W.Frag} {mg : Str → Option Value} {base : Heap}
/-! ### rules: steps between spots -/
def stepOf (z : Str) (i j : Nat) : Str × Str := if i < j then (("on" : Str), cutS z (some (i : Int)) (some (j : Int))) else (("back" : Str), cutS z (some (j : Int)) (some (i : Int)))
def stepsOf (z : Str) : List Nat → List (Str × Str)
  | i :: j :: P => stepOf z i j :: stepsOf z (j :: P)
  | _ => []
theorem stepsOf_len (z : Str) : ∀ P : List Nat, (stepsOf z P).length = P.length - 1
  | [] => rfl
  | [_] => rfl
  | i :: j :: P => by
    show (stepsOf z (j :: P)).length + 1 = _
    rw [stepsOf_len z (j :: P)]
    simp
theorem stepsOf_get {z : Str} : ∀ {P : List Nat} {k i j : Nat}, P[k]? = some i → P.tail[k]? = some j → (stepsOf z P)[k]? = some (stepOf z i j)
  | i :: j :: P, 0, _, _, h1, h2 => by
    simp at h1 h2
    subst h1 h2
    rfl
  | i :: j :: P, k + 1, _, _, h1, h2 => by
    show (stepsOf z (j :: P))[k]? = _
    exact stepsOf_get (P := j :: P) (by simpa using h1) (by simpa using h2)
  | [i], k, _, _, h1, h2 => by simp at h2
  | [], k, _, _, h1, h2 => by simp at h1
/-- the steps ss stand as a tuple at q -/
def StepsAt (H : Hp) (q : Addr) (ss : List (Str × Str)) : Prop := ∃ rs : List Addr, H q = some (.tup (rs.map V.ref)) ∧ rs.length = ss.length ∧ ∀ (i : Nat) (r : Addr) (s : Str × Str), rs[i]? = some r → ss[i]? = some s → H r = some (.tup [.str s.1, .str s.2])
theorem StepsAt.keep {H H' : Hp} {q : Addr} {ss : List (Str × Str)} (h : StepsAt H q ss) (s : ∀ b xs, H b = some (.tup xs) → H' b = some (.tup xs)) : StepsAt H' q ss := let ⟨rs, h1, h2, h3⟩ := h; ⟨rs, s _ _ h1, h2, fun i r x e1 e2 => s _ _ (h3 i r x e1 e2)⟩
theorem StepsAt.same {H H' : Hp} {q : Addr} {ss : List (Str × Str)} (h : StepsAt H q ss) (s : Same H H') : StepsAt H' q ss := h.keep fun b xs => s b _
def stepD (s : Str × Str) : PyData := .tuple [.str s.1, .str s.2]
theorem steps_dp {K : PySem.W.Frag} {H : Hp} : ∀ {ss : List (Str × Str)} {rs : List Addr}, rs.length = ss.length → (∀ (i : Nat) (r : Addr) (s : Str × Str), rs[i]? = some r → ss[i]? = some s → H r = some (.tup [.str s.1, .str s.2])) → DpAll K H (rs.map V.ref) (ss.map stepD)
  | [], [], _, _ => .nil
  | s :: ss, r :: rs, l, h => .cons (.tup (.of (h 0 r s rfl rfl)) (.cons (.str _) (.cons (.str _) .nil))) (steps_dp (by simpa using l) fun i r' s' e1 e2 => h (i + 1) r' s' (by simpa using e1) (by simpa using e2))
theorem StepsAt.dp {K : PySem.W.Frag} {H : Hp} {q : Addr} {ss : List (Str × Str)} (h : StepsAt H q ss) : Dp K H (.ref q) (.tuple (ss.map stepD)) := let ⟨_, h1, h2, h3⟩ := h; .tup (.of h1) (steps_dp h2 h3)
theorem StepsAt.row {H : Hp} {q : Addr} {ss : List (Str × Str)} (h : StepsAt H q ss) : ∃ rs : List Addr, H q = some (.tup (rs.map V.ref)) ∧ rs.length = ss.length ∧ ∀ (i : Nat) (r : Addr), rs[i]? = some r → ∃ s, ss[i]? = some s ∧ H r = some (.tup [.str s.1, .str s.2]) := by
  obtain ⟨rs, h1, h2, h3⟩ := h
  refine ⟨rs, h1, h2, fun i r e => ?_⟩
  have l : i < ss.length := by rw [← h2]; exact (List.getElem?_eq_some_iff.mp e).1
  exact ⟨ss[i], List.getElem?_eq_getElem l, h3 i r _ e (List.getElem?_eq_getElem l)⟩
def sp_steps_between (K : PySem.W.Frag) : Sp := fun vs H Q _ => ∃ (q : Addr) (z : Str) (P : List Nat), vs = [.str z, .ref q] ∧ H q = some (.tup (natV P)) ∧ P ≠ [] ∧ P.length ≤ 1000 ∧ z.length ≤ 1000 ∧ ∀ (p : Addr) H', StepsAt H' p (stepsOf z P) → Same H H' → H p = none → Q (.ref p) H'
theorem ok_steps_between (T : Txt K mg) : FnOk P w K mg base CX0 1 T.f_steps_between T.fd_steps_between ["word", "spots"] (sp_steps_between K) := by
  refine T.F_steps_between.ok sc_steps_between (fun vs H Q E h => ?_) (fun cdv A outer s H vs Q E hr h => ?_)
  · obtain ⟨q, z, P, rfl, _⟩ := h
    rfl
  · obtain ⟨q, z, P, rfl, hq, n0, hl, zl0, k⟩ := h
    refine ⟨_, (pss_cons (ps_set (i := 2) sc_steps_between.nd rfl (.inl rfl) (pe_lst pa_nil))
  (pss_cons (ps_for PassesOwn.never rfl (RZ.pi_zipA (by rfl) T.n_zip (pa_cons (pv 1) (pa_cons (pe_slice (r := rSlT K) sl_tup (pv 1) (po_some pe_int) po_none) pa_nil))) (pg_tup rfl (pgs_cons (pg_name (i := 3) sc_steps_between.nd rfl (.inl rfl)) (pgs_cons (pg_name (i := 4) sc_steps_between.nd rfl (.inl rfl)) pgs_nil)))
  (pss_one (ps_if (pt_cmpR op_lt (pv 3) (pv 4) (nomark _))
  (pss_one (ps_expr (pe_bm PySem.F.plainAttrs_list PySem.F.slot_list_append PySem.F.type_list_append mt_append (pv 2) (pa_cons (pe_tup (pa_cons pe_str (pa_cons (pe_slice sl_str (pv 0) (po_some (pv 3)) (po_some (pv 4))) pa_nil))) pa_nil))))
  (pss_one (ps_expr (pe_bm PySem.F.plainAttrs_list PySem.F.slot_list_append PySem.F.type_list_append mt_append (pv 2) (pa_cons (pe_tup (pa_cons pe_str (pa_cons (pe_slice sl_str (pv 0) (po_some (pv 4)) (po_some (pv 3))) pa_nil))) pa_nil)))))))
  (pss_one (ps_ret (pe_callTy (T := "tuple") (r := Rd.nTupOf K) Rd.c_tupOf (by rfl) T.n_tuple (by decide +kernel) (pa_cons (pv 2) pa_nil)))))), ?_⟩
    have zl : z.length ≤ sizeLine := by rw [sizeLine_eq]; omega
    walk_at "go"
    refine ⟨Nat.zero_le _, Rd.new fun l G nl gl sG => ?_⟩
    walk_at "go"
    refine Rd.forS ?_
    walk_at "go"
    have nn : natV P ≠ [] := fun e => n0 (by
      have := congrArg List.length e
      unfold natV at this
      simp at this
      exact this)
    refine Rw.sl1 (by k_extra "sq") nn (Rd.new fun q2 G2 nq2 gq2 s2 => ?_)
    have et : (natV P).tail = natV P.tail := by
      unfold natV
      rw [← List.map_tail, ← List.map_tail]
    rw [et] at gq2
    refine Rw.zipT (xs := natV P) (ys := natV P.tail) (by k_extra "sq") (by k_extra "sq") ?_
    have hml : min (natV P).length (natV P.tail).length = P.length - 1 := by unfold natV; simp
    refine for_it (Rw.walk_zipT hml.symm) (fun i σ H' => ∃ (o3 o4 : Option V) (rs : List Addr), σ = [some (.str z), some (.ref q), some (.ref l), o3, o4] ∧ Same H H' ∧ H' q2 = some (.tup (natV P.tail)) ∧ H' l = some (.lst (rs.map V.ref)) ∧ rs.length = i ∧ ∀ (k : Nat) (r : Addr) (s : Str × Str), k < i → rs[k]? = some r → (stepsOf z P)[k]? = some s → H' r = some (.tup [.str s.1, .str s.2]))
      ⟨_, _, [], rfl, sG.trans s2, gq2, s2 _ _ gl, rfl, fun k r s h => by omega⟩ (fun i σ H' _ ⟨_, _, _, _, s, h2, _⟩ => ⟨.of (s _ _ hq), .of h2⟩) ?_ ?_
    · rintro i x _ H1 _ hi ⟨o3, o4, rs, rfl, s1, g2, gl1, ln, hr⟩ ⟨T', x', y', rfl, hT, rfl, hx, hy⟩
      obtain ⟨a, ha, rfl⟩ : ∃ a : Nat, P[i]? = some a ∧ x' = .int (a : Int) := by
        unfold natV at hx
        obtain ⟨n, h1, h2⟩ := Rd.map_get hx
        rw [List.getElem?_map] at h1
        cases e : P[i]? with
        | none => rw [e] at h1; cases h1
        | some b => rw [e] at h1; exact ⟨b, rfl, by rw [h2, ← Option.some.inj h1]⟩
      obtain ⟨b, hb, rfl⟩ : ∃ b : Nat, P.tail[i]? = some b ∧ y' = .int (b : Int) := by
        unfold natV at hy
        obtain ⟨n, h1, h2⟩ := Rd.map_get hy
        rw [List.getElem?_map] at h1
        cases e : P.tail[i]? with
        | none => rw [e] at h1; cases h1
        | some c => rw [e] at h1; exact ⟨c, rfl, by rw [h2, ← Option.some.inj h1]⟩
      have sT := Rd.same_upd (o := .tup [.int (a : Int), .int (b : Int)]) hT
      have gT : upd H1 T' (.tup [.int (a : Int), .int (b : Int)]) T' = some (.tup [.int (a : Int), .int (b : Int)]) := upd_same
      generalize upd H1 T' (.tup [.int (a : Int), .int (b : Int)]) = H2 at sT gT
      refine Rd.tupT (.of gT) rfl ?_
      have hs := stepsOf_get (z := z) ha hb
      have fin : ∀ (w : Str) (y : Str), stepOf z a b = (w, y) → ∀ (e : Addr) (G3 G4 : Hp), H2 e = none → G3 e = some (.tup [.str w, .str y]) → Same H2 G3 → G4 l = some (.lst (rs.map V.ref ++ [.ref e])) → (∀ c, c ≠ l → G4 c = G3 c) →
          ∃ (o3 o4 : Option V) (rs' : List Addr), [some (V.str z), some (V.ref q), some (V.ref l), some (V.int (a : Int)), some (V.int (b : Int))] = [some (.str z), some (.ref q), some (.ref l), o3, o4] ∧ Same H G4 ∧ G4 q2 = some (.tup (natV P.tail)) ∧ G4 l = some (.lst (rs'.map V.ref)) ∧ rs'.length = i + 1 ∧ ∀ (k : Nat) (r : Addr) (s : Str × Str), k < i + 1 → rs'[k]? = some r → (stepsOf z P)[k]? = some s → G4 r = some (.tup [.str s.1, .str s.2]) := by
        intro w y ew e G3 G4 ne ge s3 g4 off4
        have nlH : H l = none := nl
        have gl2 := s3 _ _ (sT _ _ gl1)
        refine ⟨_, _, rs ++ [e], rfl, ?_, ?_, by rw [List.map_append]; exact g4, by rw [List.length_append, ln]; rfl, ?_⟩
        · exact Rd.same_off ((s1.trans sT).trans s3) nl off4
        · rw [off4 q2 (ne_of (s3 _ _ (sT _ _ g2)) gl2 (fun e => nomatch e))]
          exact s3 _ _ (sT _ _ g2)
        · intro k r s hk hr' hs'
          rcases Nat.lt_succ_iff_lt_or_eq.mp hk with h | h
          · rw [List.getElem?_append_left (by omega)] at hr'
            have := s3 _ _ (sT _ _ (hr k r s h hr' hs'))
            rw [off4 r (ne_of this gl2 (fun e => nomatch e))]
            exact this
          · subst h
            rw [List.getElem?_append_right (by omega), ln, Nat.sub_self] at hr'
            have : e = r := by simpa using hr'
            subst this
            rw [hs, ew] at hs'
            cases hs'
            rw [off4 e (ne_of ge gl2 (fun e => nomatch e))]
            exact ge
      walk_at "go"
      refine ite2 (fun c => ?_) (fun c => ?_)
      · have ew : stepOf z a b = (("on" : Str), cutS z (some (a : Int)) (some (b : Int))) := if_pos (by omega)
        walk_at "go"
        refine ⟨Nat.le_of_ble_eq_true rfl, Rd.new fun e G3 ne ge s3 => ?_⟩
        walk_at "go"
        refine Rd.app (by k_extra "at") (by k_extra "sz") fun G4 g4 off4 => ?_
        walk_at "go"
        exact fin _ _ ew e G3 G4 ne ge s3 g4 off4
      · have ew : stepOf z a b = (("back" : Str), cutS z (some (b : Int)) (some (a : Int))) := if_neg (by omega)
        walk_at "go"
        refine ⟨Nat.le_of_ble_eq_true rfl, Rd.new fun e G3 ne ge s3 => ?_⟩
        walk_at "go"
        refine Rd.app (by k_extra "at") (by k_extra "sz") fun G4 g4 off4 => ?_
        walk_at "go"
        exact fin _ _ ew e G3 G4 ne ge s3 g4 off4
    · rintro _ H1 ⟨o3, o4, rs, rfl, s1, g2, gl1, ln, hr⟩
      walk_at "go"
      refine Rd.tupOf (by k_extra "sq") (Rd.new fun p G np gp s2 => ?_)
      refine k p G ⟨rs, gp, by rw [ln, stepsOf_len], fun i r s e1 e2 => s2 _ _ (hr i r s ?_ e1 e2)⟩ (s1.trans s2) (s1.free np)
      have := (List.getElem?_eq_some_iff.mp e1).1
      omega

end
end W

namespace W
open PySem PySem.Spec PyProof.Rows L2
section
variable {P : Program} {w : World} {K : PySem.W.Frag} {mg : Str → Option Value} {base : Heap}
/-! ### letters drawn -/
def sp_l_letters (K : PySem.W.Frag) : Sp := fun vs H Q _ => ∃ t c : Addr, vs = [.ref t] ∧ Tape H t c ∧ ∀ (z : Str) H', Lt.Let z → 1 ≤ z.length → z.length ≤ 3 → Tape H' t c → Rd.But t H H' → Q (.str z) H'
theorem abc_get {i : Int} (h0 : 0 ≤ i) (h1 : i < 26) : ∃ c, atI Lt.Abc.cps.toList i = some c ∧ c ∈ Lt.Abc.cps.toList := by
  have l : Lt.Abc.cps.toList.length = 26 := by decide +kernel
  have hi : i.toNat < Lt.Abc.cps.toList.length := by omega
  exact ⟨_, Rd.atI_of h0 (List.getElem?_eq_getElem hi), List.getElem_mem hi⟩
theorem ok_l_letters (T : Txt K mg) : FnOk P w K mg base CX0 2 T.f_l_letters T.fd_l_letters ["_law_tape_here"] (sp_l_letters K) := by
  refine T.F_l_letters.ok sc_l_letters (fun vs H Q E h => ?_) (fun cdv A outer s H vs Q E hr h => ?_)
  · obtain ⟨t, c, rfl, _⟩ := h
    rfl
  · obtain ⟨t, c, rfl, tp, k⟩ := h
    refine ⟨_, (pss_cons (ps_set (i := 1) sc_l_letters.nd rfl (.inl rfl) pe_str)
  (pss_cons (ps_set (i := 2) sc_l_letters.nd rfl (.inl rfl) (pe_call (ok_l_pick T) (hr.mono (by decide)) rfl T.g_l_pick T.F_l_pick.kp T.b_l_pick .nil pass0 (pa_cons (pv 0) (pa_cons pe_int pa_nil))))
  (pss_cons (ps_set (i := 3) sc_l_letters.nd rfl (.inl rfl) (pe_ix (r := rIxL K) ix_list (pe_lst (pa_cons pe_int (pa_cons pe_int (pa_cons pe_int (pa_cons pe_int (pa_cons pe_int (pa_cons pe_int (pa_cons pe_int (pa_cons pe_int pa_nil))))))))) (pe_call (ok_l_pick T) (hr.mono (by decide)) rfl T.g_l_pick T.F_l_pick.kp T.b_l_pick .nil pass0 (pa_cons (pv 0) (pa_cons pe_int pa_nil))) (fun _ _ => rfl)))
  (pss_cons (ps_set (i := 4) sc_l_letters.nd rfl (.inl rfl) pe_str)
  (pss_cons (ps_for PassesOwn.never rfl (pi_range1 rfl T.n_range (pa_cons (pe_op op_add pe_int (pe_call (ok_l_pick T) (hr.mono (by decide)) rfl T.g_l_pick T.F_l_pick.kp T.b_l_pick .nil pass0 (pa_cons (pv 0) (pa_cons pe_int pa_nil)))) pa_nil)) (pg_name (i := 5) sc_l_letters.nd rfl (.inl rfl))
  (pss_one (ps_set (i := 4) sc_l_letters.nd rfl (.inl rfl) (pe_op Rd.o_addS (pv 4) (pe_ix ix_str (pv 1) (pe_op op_mod (pe_callTy (T := "int") (r := _) Rd.c_int (by rfl) T.n_int (by decide +kernel) (pa_cons (pe_op op_add (pv 2) (pe_op op_mul (pv 3) (pv 5))) pa_nil)) pe_int) (fun _ _ => rfl))))))
  (pss_one (ps_ret (pv 4)))))))), ?_⟩
    walk_at "rd"
    refine pickR tp (by decide) (by decide) fun st H1 st0 st1 tp1 b1 => ?_
    walk_at "rd"
    refine ⟨Nat.le_of_ble_eq_true rfl, Rd.new fun p G2 np gp s2 => ?_⟩
    walk_at "rd"
    refine pickR (tp1.same s2) (by decide) (by decide) fun sp H3 sp0 sp1 tp3 b3 => ?_
    have pt : p ≠ t := (tp1.new np).1
    obtain ⟨step, hm, m0, m1⟩ : ∃ m, [V.int 1, .int 3, .int 5, .int 7, .int 9, .int 11, .int 15, .int 17][sp.toNat]? = some (.int m) ∧ 1 ≤ m ∧ m ≤ 17 := by
      have : sp.toNat = 0 ∨ sp.toNat = 1 ∨ sp.toNat = 2 ∨ sp.toNat = 3 ∨ sp.toNat = 4 ∨ sp.toNat = 5 ∨ sp.toNat = 6 ∨ sp.toNat = 7 := by omega
      rcases this with e | e | e | e | e | e | e | e <;> rw [e] <;> exact ⟨_, rfl, by decide, by decide⟩
    refine Rd.ixL (.of (b3 p _ pt gp)) (Rd.atI_of sp0 hm) ?_
    walk_at "rd"
    refine Rd.forS ?_
    walk_at "rd"
    refine pickR tp3 (by decide) (by decide) fun r H4 r0 r1 tp4 b4 => ?_
    walk_at "rd"
    refine ⟨by omega, by omega, ?_⟩
    refine for_range (lo := 0) (n := (1 + r).toNat) (fun i σ H' => ∃ (z : Str) (o : Option V), σ = [some (.ref t), some (.str Lt.Abc), some (.int st), some (.int step), some (.str z), o] ∧ Lt.Let z ∧ z.length = i ∧ H' = H4)
      ⟨"", none, rfl, Lt.Let.empty, rfl, rfl⟩ ?_ ?_
    · rintro i _ H' hi ⟨z, o, rfl, hz, zl, rfl⟩
      walk_at "rd"
      refine Rd.iC (.inl ⟨by omega, by omega⟩) ?_
      walk_at "rd"
      refine Rd.iC (by decide) ?_
      obtain ⟨ch, e, hc⟩ := abc_get (i := (st + step * (0 + (i : Int))) % 26) (Int.emod_nonneg _ (by decide)) (Int.emod_lt_of_pos _ (by decide))
      refine Rd.ixS (by decide +kernel) e ?_
      refine Rd.addS (by rw [sizeLine_eq]; show z.length + 1 ≤ _; omega) ?_
      walk_at "rd"
      refine ⟨_, _, rfl, hz.app (Lt.Let.one hc), ?_, rfl⟩
      rw [Lt.len_app, zl]
      rfl
    · rintro _ H' ⟨z, o, rfl, hz, zl, rfl⟩
      walk_at "rd"
      exact k z _ hz (by omega) (by omega) tp4 (((b1.same s2).trans b3).trans b4)

end
end W

namespace W
open PySem PySem.Spec PyProof.Rows L2
section
variable {P : Program} {w : World} {K : PySem.W.Frag} {mg : Str → Option Value} {base : Heap}
/-! ### words and watches drawn -/
theorem but_off {t l : Addr} {H H1 G : Hp} (b : Rd.But t H H1) (n : H l = none) (off : ∀ q, q ≠ l → G q = H1 q) : Rd.But t H G := fun q o h e => by rw [off q (ne_of_none e n)]; exact b q o h e
theorem cut_toI {xs : List V} {m : Int} (h : 0 ≤ m) : cutV xs none (some m) = xs.take m.toNat := by
  have e : HT.sIx xs.length xs.length (some m) = min m.toNat xs.length := by
    have := HT.sIx_nat xs.length xs.length m.toNat
    rw [show ((m.toNat : Nat) : Int) = m by omega] at this
    exact this
  have e0 : HT.sIx xs.length 0 none = 0 := rfl
  unfold cutV
  rw [e, e0, List.drop_zero, Nat.sub_zero]
  rcases Nat.le_total m.toNat xs.length with l | l
  · rw [Nat.min_eq_left l]
  · rw [Nat.min_eq_right l, List.take_length, List.take_of_length_le l]
def sp_l_word (K : PySem.W.Frag) : Sp := fun vs H Q _ => ∃ (t c : Addr) (L : Str) (lo hi : Int), vs = [.ref t, .str L, .int lo, .int hi] ∧ Tape H t c ∧ Lt.Let L ∧ 1 ≤ L.length ∧ L.length ≤ 1000 ∧ 0 ≤ lo ∧ lo ≤ hi ∧ hi ≤ 1000 ∧ ∀ (z : Str) H', Lt.Let z → lo ≤ (z.length : Int) → (z.length : Int) ≤ hi → Tape H' t c → Rd.But t H H' → Q (.str z) H'
def sp_l_piece (K : PySem.W.Frag) : Sp := fun vs H Q _ => ∃ (t c : Addr) (z : Str), vs = [.ref t, .str z] ∧ Tape H t c ∧ Lt.Let z ∧ 1 ≤ z.length ∧ z.length ≤ 1000 ∧ ∀ (y : Str) H', Lt.Wd 12 y → Tape H' t c → Rd.But t H H' → Q (.str y) H'
def sp_l_pathed (K : PySem.W.Frag) : Sp := fun vs H Q _ => ∃ (t c : Addr) (z : Str), vs = [.ref t, .str z] ∧ Tape H t c ∧ Lt.Let z ∧ z.length ≤ 1000 ∧ ∀ (l : Addr) (ws : List Str) H', Tape H' t c → Rd.But t H H' → H l = none → H' l = some (.lst (ws.map V.str)) → ws.Nodup → ws.length ≤ 8 → (∀ y ∈ ws, Lt.Wd 12 y) → Q (.ref l) H'
def sp_l_watches (K : PySem.W.Frag) : Sp := fun vs H Q _ => ∃ (t c : Addr) (z L : Str) (most : Int), vs = [.ref t, .str z, .str L, .int most] ∧ Tape H t c ∧ Lt.Let z ∧ 1 ≤ z.length ∧ z.length ≤ 1000 ∧ Lt.Let L ∧ 1 ≤ L.length ∧ L.length ≤ 1000 ∧ 0 ≤ most ∧ most ≤ 12 ∧ ∀ (l : Addr) (ws : List Str) H', Tape H' t c → Rd.But t H H' → H l = none → H' l = some (.lst (ws.map V.str)) → Watches ws → (ws.length : Int) ≤ most → Q (.ref l) H'
theorem let_get {z : Str} (h : Lt.Let z) {i : Int} (h0 : 0 ≤ i) (h1 : i < z.length) : ∃ c, atI z.cps.toList i = some c ∧ c ∈ Lt.Abc.cps.toList := by
  have hi : i.toNat < z.cps.toList.length := by rw [Array.length_toList]; unfold Str.length at h1; omega
  exact ⟨_, Rd.atI_of h0 (List.getElem?_eq_getElem hi), h _ (List.getElem_mem hi)⟩
theorem ok_l_word (T : Txt K mg) : FnOk P w K mg base CX0 2 T.f_l_word T.fd_l_word ["_law_tape_here", "_law_letters_here", "_law_least", "_law_most"] (sp_l_word K) := by
  refine T.F_l_word.ok sc_l_word (fun vs H Q E h => ?_) (fun cdv A outer s H vs Q E hr h => ?_)
  · obtain ⟨t, c, L, lo, hi, rfl, _⟩ := h
    rfl
  · obtain ⟨t, c, L, lo, hi, rfl, tp, hL, L0, L1, a0, a1, a2, k⟩ := h
    refine ⟨_, (pss_cons (ps_set (i := 4) sc_l_word.nd rfl (.inl rfl) pe_str)
  (pss_cons (ps_for PassesOwn.never rfl (pi_range1 rfl T.n_range (pa_cons (pe_op op_add (pv 2) (pe_call (ok_l_pick T) (hr.mono (by decide)) rfl T.g_l_pick T.F_l_pick.kp T.b_l_pick .nil pass0 (pa_cons (pv 0) (pa_cons (pe_op op_add (pe_op op_sub (pv 3) (pv 2)) pe_int) pa_nil)))) pa_nil)) (pg_name (i := 5) sc_l_word.nd rfl (.inl rfl))
  (pss_one (ps_set (i := 4) sc_l_word.nd rfl (.inl rfl) (pe_op Rd.o_addS (pv 4) (pe_ix ix_str (pv 1) (pe_call (ok_l_pick T) (hr.mono (by decide)) rfl T.g_l_pick T.F_l_pick.kp T.b_l_pick .nil pass0 (pa_cons (pv 0) (pa_cons (pe_callB (id := "len") (r := _) Rd.c_lenS (by rfl) T.n_len (by decide +kernel) (pa_cons (pv 1) pa_nil)) pa_nil))) (fun _ _ => rfl))))))
  (pss_one (ps_ret (pv 4))))), ?_⟩
    have Ll : L.length ≤ sizeLine := by rw [sizeLine_eq]; omega
    walk_at "rd"
    refine Rd.forS ?_
    walk_at "rd"
    refine pickR tp (by omega) (by omega) fun r H4 r0 r1 tp4 b4 => ?_
    walk_at "rd"
    refine ⟨by omega, by omega, ?_⟩
    refine for_range (lo := 0) (n := (lo + r).toNat) (fun i σ H' => ∃ (z : Str) (o : Option V), σ = [some (.ref t), some (.str L), some (.int lo), some (.int hi), some (.str z), o] ∧ Lt.Let z ∧ z.length = i ∧ Tape H' t c ∧ Rd.But t H H')
      ⟨"", none, rfl, Lt.Let.empty, rfl, tp4, b4⟩ ?_ ?_
    · rintro i _ H' hi ⟨z, o, rfl, hz, zl, tp5, b5⟩
      walk_at "rd"
      refine Rd.lenStr Ll ?_
      walk_at "rd"
      refine pickR tp5 (by omega) (by omega) fun r2 H6 r20 r21 tp6 b6 => ?_
      walk_at "rd"
      obtain ⟨ch, e, hc⟩ := let_get hL r20 r21
      refine Rd.ixS Ll e ?_
      refine Rd.addS (by rw [sizeLine_eq]; show z.length + 1 ≤ _; omega) ?_
      walk_at "rd"
      refine ⟨_, _, rfl, hz.app (Lt.Let.one hc), ?_, tp6, b5.trans b6⟩
      rw [Lt.len_app, zl]
      rfl
    · rintro _ H' ⟨z, o, rfl, hz, zl, tp5, b5⟩
      walk_at "rd"
      exact k z _ hz (by omega) (by omega) tp5 b5
theorem ok_l_piece (T : Txt K mg) : FnOk P w K mg base CX0 2 T.f_l_piece T.fd_l_piece ["_law_tape_here", "_law_word_here"] (sp_l_piece K) := by
  refine T.F_l_piece.ok sc_l_piece (fun vs H Q E h => ?_) (fun cdv A outer s H vs Q E hr h => ?_)
  · obtain ⟨t, c, z, rfl, _⟩ := h
    rfl
  · obtain ⟨t, c, z, rfl, tp, hz, z0, z1, k⟩ := h
    refine ⟨_, (pss_cons (ps_set (i := 2) sc_l_piece.nd rfl (.inl rfl) (pe_call (ok_l_pick T) (hr.mono (by decide)) rfl T.g_l_pick T.F_l_pick.kp T.b_l_pick .nil pass0 (pa_cons (pv 0) (pa_cons (pe_callB (id := "len") (r := _) Rd.c_lenS (by rfl) T.n_len (by decide +kernel) (pa_cons (pv 1) pa_nil)) pa_nil))))
  (pss_cons (ps_set (i := 3) sc_l_piece.nd rfl (.inl rfl) (pe_op op_add pe_int (pe_call (ok_l_pick T) (hr.mono (by decide)) rfl T.g_l_pick T.F_l_pick.kp T.b_l_pick .nil pass0 (pa_cons (pv 0) (pa_cons (pe_callB (id := "min") (r := _) (Rd.c_min2 rfl) (by rfl) T.n_min (by decide +kernel) (pa_cons (pe_op op_sub (pe_callB (id := "len") (r := _) Rd.c_lenS (by rfl) T.n_len (by decide +kernel) (pa_cons (pv 1) pa_nil)) (pv 2)) (pa_cons pe_int pa_nil))) pa_nil)))))
  (pss_one (ps_ret (pe_slice sl_str (pv 1) (po_some (pv 2)) (po_some (pe_op op_add (pv 2) (pv 3)))))))), ?_⟩
    have zl : z.length ≤ sizeLine := by rw [sizeLine_eq]; omega
    walk_at "rd"
    refine Rd.lenStr zl ?_
    walk_at "rd"
    refine pickR tp (by omega) (by omega) fun st H1 st0 st1 tp1 b1 => ?_
    walk_at "rd"
    refine Rd.lenStr zl ?_
    walk_at "rd"
    refine pickR tp1 (by omega) (by omega) fun sz H2 sz0 sz1 tp2 b2 => ?_
    walk_at "rd"
    refine Rd.slS zl ?_
    walk_at "rd"
    have e := Lt.cut_lenI (z := z) (a := st) (b := st + (1 + sz)) st0 (by omega) (by omega)
    exact k _ _ ⟨hz.cut _ _, by omega, by omega⟩ tp2 (b1.trans b2)
theorem ok_l_pathed (T : Txt K mg) : FnOk P w K mg base CX0 2 T.f_l_pathed T.fd_l_pathed ["_law_tape_here", "_law_word_here"] (sp_l_pathed K) := by
  refine T.F_l_pathed.ok sc_l_pathed (fun vs H Q E h => ?_) (fun cdv A outer s H vs Q E hr h => ?_)
  · obtain ⟨t, c, z, rfl, _⟩ := h
    rfl
  · obtain ⟨t, c, z, rfl, tp, hz, z1, k⟩ := h
    refine ⟨_, (pss_cons (ps_set (i := 2) sc_l_pathed.nd rfl (.inl rfl) (pe_lst pa_nil))
  (pss_cons (ps_set (i := 3) sc_l_pathed.nd rfl (.inl rfl) pe_int)
  (pss_cons (ps_for PassesOwn.never rfl (pi_range1 rfl T.n_range (pa_cons pe_int pa_nil)) (pg_name (i := 4) sc_l_pathed.nd rfl (.inl rfl))
  (pss_cons (ps_set (i := 5) sc_l_pathed.nd rfl (.inl rfl) (pe_call (ok_l_pick T) (hr.mono (by decide)) rfl T.g_l_pick T.F_l_pick.kp T.b_l_pick .nil pass0 (pa_cons (pv 0) (pa_cons (pe_op op_add (pe_callB (id := "len") (r := _) Rd.c_lenS (by rfl) T.n_len (by decide +kernel) (pa_cons (pv 1) pa_nil)) pe_int) pa_nil))))
  (C8.pss_cut (ps_if (PW.pt (pw_or (pt_cmpR op_eq (pv 4) pe_int (nomark _)) (pw_or1 (pt_cmpR op_eq (pe_call (ok_l_pick T) (hr.mono (by decide)) rfl T.g_l_pick T.F_l_pick.kp T.b_l_pick .nil pass0 (pa_cons (pv 0) (pa_cons pe_int pa_nil))) pe_int (nomark _)))))
  (pss_one (ps_set (i := 5) sc_l_pathed.nd rfl (.inl rfl) (pe_callB (id := "len") (r := _) Rd.c_lenS (by rfl) T.n_len (by decide +kernel) (pa_cons (pv 1) pa_nil))))
  pss_nil)
  (C8.pss_cut (ps_if (pt_cmpR op_gt (pe_op op_sub (pv 5) (pv 3)) pe_int (nomark _))
  (pss_one (ps_set (i := 5) sc_l_pathed.nd rfl (.inl rfl) (pe_op op_add (pv 3) pe_int)))
  pss_nil)
  (C8.pss_cut (ps_if (pt_cmpR op_gt (pe_op op_sub (pv 3) (pv 5)) pe_int (nomark _))
  (pss_one (ps_set (i := 5) sc_l_pathed.nd rfl (.inl rfl) (pe_op op_sub (pv 3) pe_int)))
  pss_nil)
  (pss_cons (ps_set (i := 6) sc_l_pathed.nd rfl (.inl rfl) (pe_slice sl_str (pv 1) (po_some (pe_callB (id := "min") (r := _) (Rd.c_min2 rfl) (by rfl) T.n_min (by decide +kernel) (pa_cons (pv 3) (pa_cons (pv 5) pa_nil)))) (po_some (pe_callB (id := "max") (r := _) (Rd.c_max2 rfl) (by rfl) T.n_max (by decide +kernel) (pa_cons (pv 3) (pa_cons (pv 5) pa_nil))))))
  (C8.pss_cut (ps_if (PW.pt (pw_and (pt_cmpR op_ne (pv 6) pe_str (nomark _)) (pw_and1 (pt_cmpR (r := rIn K true) op_notIn_seq (pv 6) (pv 2) (by rfl)))))
  (pss_one (ps_expr (pe_bm PySem.F.plainAttrs_list PySem.F.slot_list_append PySem.F.type_list_append mt_append (pv 2) (pa_cons (pv 6) pa_nil))))
  pss_nil)
  (pss_cons (ps_set (i := 3) sc_l_pathed.nd rfl (.inl rfl) (pv 5))
  (pss_one (ps_if (pt_cmpR op_eq (pv 3) (pe_callB (id := "len") (r := _) Rd.c_lenS (by rfl) T.n_len (by decide +kernel) (pa_cons (pv 1) pa_nil)) (nomark _))
  (pss_one ps_break)
  pss_nil))))))))))
  (pss_one (ps_ret (pv 2)))))), ?_⟩
    have zl : z.length ≤ sizeLine := by rw [sizeLine_eq]; omega
    walk_at "rd"
    refine ⟨Nat.zero_le _, Rd.new fun l G0 nl gl s0 => ?_⟩
    have ⟨lt, lc⟩ := tp.new nl
    walk_at "rd"
    refine Rd.forS ?_
    walk_at "rd"
    refine ⟨by decide, by decide, ?_⟩
    refine for_range (lo := 0) (n := 8) (fun i σ H' => ∃ (ws : List Str) (spot : Int) (o1 o2 o3 : Option V), σ = [some (.ref t), some (.str z), some (.ref l), some (.int spot), o1, o2, o3] ∧ 0 ≤ spot ∧ spot ≤ z.length ∧ Tape H' t c ∧ Rd.But t H H' ∧ H' l = some (.lst (ws.map V.str)) ∧ ws.Nodup ∧ ws.length ≤ i ∧ ∀ y ∈ ws, Lt.Wd 12 y)
      ⟨[], 0, none, none, none, rfl, by decide, by omega, tp.same s0, Rd.But.of s0, gl, .nil, Nat.le_refl _, fun _ h => by simp at h⟩ ?_ ?_
    · rintro i _ H1 hi ⟨ws, spot, o1, o2, o3, rfl, p0, p1, tp1, b1, gl1, nd, wl, hw⟩
      walk_at "rd"
      refine Rd.lenStr zl ?_
      walk_at "rd"
      refine pickR tp1 (by omega) (by omega) fun ot H2 ot0 ot1 tp2 b2 => ?_
      have gl2 := b2 l _ lt gl1
      walk_at "rd"
      refine Rd.cut (fun σ H' => ∃ ot : Int, σ = [some (.ref t), some (.str z), some (.ref l), some (.int spot), some (.int (0 + (i : Int))), some (.int ot), o3] ∧ 0 ≤ ot ∧ ot ≤ z.length ∧ Tape H' t c ∧ Rd.But t H H' ∧ H' l = some (.lst (ws.map V.str))) ?_ ?_
      · walk_at "rd"
        refine ite2 (fun q => ?_) (fun q => ?_)
        · walk_at "rd"
          refine Rd.lenStr zl ?_
          walk_at "rd"
          exact ⟨_, rfl, by omega, by omega, tp2, b1.trans b2, gl2⟩
        · walk_at "rd"
          refine pickR tp2 (by decide) (by decide) fun r H3 r0 r1 tp3 b3 => ?_
          have gl3 := b3 l _ lt gl2
          walk_at "rd"
          refine ite2 (fun q => ?_) (fun q => ?_)
          · walk_at "rd"
            refine Rd.lenStr zl ?_
            walk_at "rd"
            exact ⟨_, rfl, by omega, by omega, tp3, (b1.trans b2).trans b3, gl3⟩
          · walk_at "rd"
            exact ⟨_, rfl, by omega, by omega, tp3, (b1.trans b2).trans b3, gl3⟩
      · rintro _ H3 ⟨ot, rfl, ot0, ot1, tp3, b3, gl3⟩
        walk_at "rd"
        refine Rd.cut (fun σ H' => ∃ ot : Int, σ = [some (.ref t), some (.str z), some (.ref l), some (.int spot), some (.int (0 + (i : Int))), some (.int ot), o3] ∧ 0 ≤ ot ∧ ot ≤ z.length ∧ ot ≤ spot + 12 ∧ H' = H3) ?_ ?_
        · walk_at "rd"
          refine ite2 (fun q => ?_) (fun q => ?_)
          · walk_at "rd"
            exact ⟨_, rfl, by omega, by omega, by omega, rfl⟩
          · walk_at "rd"
            exact ⟨_, rfl, by omega, by omega, by omega, rfl⟩
        · rintro _ H3 ⟨ot, rfl, ot0, ot1, ot2, rfl⟩
          walk_at "rd"
          refine Rd.cut (fun σ H' => ∃ ot : Int, σ = [some (.ref t), some (.str z), some (.ref l), some (.int spot), some (.int (0 + (i : Int))), some (.int ot), o3] ∧ 0 ≤ ot ∧ ot ≤ z.length ∧ ot ≤ spot + 12 ∧ spot ≤ ot + 12 ∧ H' = H3) ?_ ?_
          · walk_at "rd"
            refine ite2 (fun q => ?_) (fun q => ?_)
            · walk_at "rd"
              exact ⟨_, rfl, by omega, by omega, by omega, by omega, rfl⟩
            · walk_at "rd"
              exact ⟨_, rfl, by omega, by omega, by omega, by omega, rfl⟩
          · rintro _ H3 ⟨ot, rfl, ot0, ot1, ot2, ot3, rfl⟩
            walk_at "rd"
            refine Rd.slS zl ?_
            walk_at "rd"
            have cl := Lt.cut_lenI (z := z) (a := min spot ot) (b := max spot ot) (by omega) (by omega) (by omega)
            have cL := hz.cut (some (min spot ot)) (some (max spot ot))
            generalize cutS z (some (min spot ot)) (some (max spot ot)) = y at cl cL
            refine Rd.cut (fun σ H' => ∃ ws : List Str, σ = [some (.ref t), some (.str z), some (.ref l), some (.int spot), some (.int (0 + (i : Int))), some (.int ot), some (.str y)] ∧ Tape H' t c ∧ Rd.But t H H' ∧ H' l = some (.lst (ws.map V.str)) ∧ ws.Nodup ∧ ws.length ≤ i + 1 ∧ ∀ y ∈ ws, Lt.Wd 12 y) ?_ ?_
            · walk_at "rd"
              refine ite2 (fun q => ?_) (fun q => ?_)
              · walk_at "rd"
                exact ⟨ws, rfl, tp3, b3, gl3, nd, by omega, hw⟩
              · walk_at "rd"
                refine Rd.inStrsN (.inl (.of gl3)) ?_
                walk_at "rd"
                refine ite2 (fun q2 => ?_) (fun q2 => ?_)
                · walk_at "rd"
                  exact ⟨ws, rfl, tp3, b3, gl3, nd, by omega, hw⟩
                · walk_at "rd"
                  refine Rd.tyL (.of gl3) ?_
                  walk_at "rd"
                  refine Rd.app gl3 (by rw [List.length_map, sizeLine_eq]; omega) fun G4 g4 off4 => ?_
                  walk_at "rd"
                  have y0 := Lt.len_of_ne q
                  refine ⟨ws ++ [y], rfl, tp3.off lt lc off4, but_off b3 nl off4, by rw [List.map_append]; exact g4, ?_, by rw [List.length_append]; exact Nat.succ_le_succ wl, fun x hx => ?_⟩
                  · rw [List.nodup_append]
                    exact ⟨nd, by simp, fun x hx z hz e => q2 (by simp at hz; rw [← hz, ← e]; exact hx)⟩
                  · rcases List.mem_append.mp hx with h | h
                    · exact hw x h
                    · simp at h
                      rw [h]
                      exact ⟨cL, by omega, by omega⟩
            · rintro _ H4 ⟨ws, rfl, tp4, b4, gl4, nd, wl, hw⟩
              walk_at "rd"
              refine Rd.lenStr zl ?_
              walk_at "rd"
              refine ite2 (fun q => ?_) (fun q => ?_)
              · walk_at "rd"
                exact k l ws H4 tp4 b4 nl gl4 nd (by omega) hw
              · walk_at "rd"
                exact ⟨ws, ot, _, _, _, rfl, ot0, ot1, tp4, b4, gl4, nd, wl, hw⟩
    · rintro _ H1 ⟨ws, spot, o1, o2, o3, rfl, p0, p1, tp1, b1, gl1, nd, wl, hw⟩
      walk_at "rd"
      exact k l ws H1 tp1 b1 nl gl1 nd wl hw
theorem ok_l_watches (T : Txt K mg) : FnOk P w K mg base CX0 3 T.f_l_watches T.fd_l_watches ["_law_tape_here", "_law_word_here", "_law_letters_here", "_law_most"] (sp_l_watches K) := by
  refine T.F_l_watches.ok sc_l_watches (fun vs H Q E h => ?_) (fun cdv A outer s H vs Q E hr h => ?_)
  · obtain ⟨t, c, z, L, most, rfl, _⟩ := h
    rfl
  · obtain ⟨t, c, z, L, most, rfl, tp, hz, z0, z1, hL, L0, L1, m0, m1, k⟩ := h
    refine ⟨_, (pss_cons (ps_set (i := 4) sc_l_watches.nd rfl (.inl rfl) (pe_call (ok_l_pick T) (hr.mono (by decide)) rfl T.g_l_pick T.F_l_pick.kp T.b_l_pick .nil pass0 (pa_cons (pv 0) (pa_cons pe_int pa_nil))))
  (pss_cons (ps_set (i := 5) sc_l_watches.nd rfl (.inl rfl) (pe_lst pa_nil))
  (C8.pss_cut (ps_if (PW.pt (pw_and (pt_cmpR op_gt (pv 4) pe_int (nomark _)) (pw_and1 (pt_cmpR op_gt (pe_callB (id := "len") (r := _) Rd.c_lenS (by rfl) T.n_len (by decide +kernel) (pa_cons (pv 1) pa_nil)) pe_int (nomark _)))))
  (pss_one (ps_set (i := 5) sc_l_watches.nd rfl (.inl rfl) (pe_call (ok_l_pathed T) (hr.mono (by decide)) rfl T.g_l_pathed T.F_l_pathed.kp T.b_l_pathed .nil pass0 (pa_cons (pv 0) (pa_cons (pv 1) pa_nil)))))
  pss_nil)
  (C8.pss_cut (ps_if (PW.pt (pw_and (pt_cmpR op_eq (pv 4) pe_int (nomark _)) (pw_and1 (pt_cmpR op_gt (pe_callB (id := "len") (r := Rd.nLen K) Rd.c_len (by rfl) T.n_len (by decide +kernel) (pa_cons (pv 5) pa_nil)) pe_int (nomark _)))))
  (pss_one (ps_expr (pe_bm PySem.F.plainAttrs_list PySem.F.slot_list_pop PySem.F.type_list_pop mt_popAt (pv 5) (pa_cons (pe_call (ok_l_pick T) (hr.mono (by decide)) rfl T.g_l_pick T.F_l_pick.kp T.b_l_pick .nil pass0 (pa_cons (pv 0) (pa_cons (pe_callB (id := "len") (r := Rd.nLen K) Rd.c_len (by rfl) T.n_len (by decide +kernel) (pa_cons (pv 5) pa_nil)) pa_nil))) pa_nil))))
  pss_nil)
  (pss_cons (ps_for PassesOwn.never rfl (pi_range1 rfl T.n_range (pa_cons (pe_call (ok_l_pick T) (hr.mono (by decide)) rfl T.g_l_pick T.F_l_pick.kp T.b_l_pick .nil pass0 (pa_cons (pv 0) (pa_cons pe_int pa_nil))) pa_nil)) (pg_name (i := 6) sc_l_watches.nd rfl (.inl rfl))
  (pss_cons (ps_set (i := 7) sc_l_watches.nd rfl (.inl rfl) (pe_call (ok_l_piece T) (hr.mono (by decide)) rfl T.g_l_piece T.F_l_piece.kp T.b_l_piece .nil pass0 (pa_cons (pv 0) (pa_cons (pv 1) pa_nil))))
  (C8.pss_cut (ps_if (pt_cmpR op_eq (pe_call (ok_l_pick T) (hr.mono (by decide)) rfl T.g_l_pick T.F_l_pick.kp T.b_l_pick .nil pass0 (pa_cons (pv 0) (pa_cons pe_int pa_nil))) pe_int (nomark _))
  (pss_one (ps_set (i := 7) sc_l_watches.nd rfl (.inl rfl) (pe_call (ok_l_word T) (hr.mono (by decide)) rfl T.g_l_word T.F_l_word.kp T.b_l_word .nil pass0 (pa_cons (pv 0) (pa_cons (pv 2) (pa_cons pe_int (pa_cons pe_int pa_nil)))))))
  pss_nil)
  (pss_one (ps_if (pt_cmpR (r := rIn K true) op_notIn_seq (pv 7) (pv 5) (by rfl))
  (pss_one (ps_expr (pe_bm PySem.F.plainAttrs_list PySem.F.slot_list_insert PySem.F.type_list_insert Rd.m_insert (pv 5) (pa_cons (pe_call (ok_l_pick T) (hr.mono (by decide)) rfl T.g_l_pick T.F_l_pick.kp T.b_l_pick .nil pass0 (pa_cons (pv 0) (pa_cons (pe_op op_add (pe_callB (id := "len") (r := Rd.nLen K) Rd.c_len (by rfl) T.n_len (by decide +kernel) (pa_cons (pv 5) pa_nil)) pe_int) pa_nil))) (pa_cons (pv 7) pa_nil)))))
  pss_nil)))))
  (pss_one (ps_ret (pe_slice (r := rSlL K) sl_list (pv 5) po_none (po_some (pv 3)))))))))), ?_⟩
    have zl : z.length ≤ sizeLine := by rw [sizeLine_eq]; omega
    walk_at "rd"
    refine pickR tp (by decide) (by decide) fun kind H1 k0 k1 tp1 b1 => ?_
    walk_at "rd"
    refine ⟨Nat.zero_le _, Rd.new fun l0 G2 nl0 gl0 s2 => ?_⟩
    walk_at "rd"
    -- the list so far: l, not there at first
    refine Rd.cut (fun σ H' => ∃ (l : Addr) (ws : List Str), σ = [some (.ref t), some (.str z), some (.str L), some (.int most), some (.int kind), some (.ref l), none, none] ∧ Tape H' t c ∧ Rd.But t H H' ∧ H l = none ∧ H' l = some (.lst (ws.map V.str)) ∧ ws.Nodup ∧ ws.length ≤ 8 ∧ ∀ y ∈ ws, Lt.Wd 12 y) ?_ ?_
    · have no : ∃ (l : Addr) (ws : List Str), [some (V.ref t), some (.str z), some (.str L), some (.int most), some (.int kind), some (.ref l0), none, none] = [some (.ref t), some (.str z), some (.str L), some (.int most), some (.int kind), some (.ref l), none, none] ∧ Tape G2 t c ∧ Rd.But t H G2 ∧ H l = none ∧ G2 l = some (.lst (ws.map V.str)) ∧ ws.Nodup ∧ ws.length ≤ 8 ∧ ∀ y ∈ ws, Lt.Wd 12 y :=
        ⟨l0, [], rfl, tp1.same s2, b1.same s2, b1.free (tp1.new nl0).1 nl0, gl0, .nil, Nat.zero_le _, fun _ h => by simp at h⟩
      walk_at "rd"
      refine ite2 (fun q => ?_) (fun q => ?_)
      · walk_at "rd"
        refine Rd.lenStr zl ?_
        walk_at "rd"
        refine ite2 (fun q => ?_) (fun q => ?_)
        · walk_at "rd"
          refine ⟨t, c, z, rfl, tp1.same s2, hz, z1, fun l ws H3 tp3 b3 nl gl nd wl hw => ?_⟩
          walk_at "rd"
          have nl1 := s2.free nl
          exact ⟨l, ws, rfl, tp3, (b1.same s2).trans b3, b1.free (tp1.new nl1).1 nl1, gl, nd, wl, hw⟩
        · walk_at "rd"
          exact no
      · walk_at "rd"
        exact no
    · rintro _ H3 ⟨l, ws, rfl, tp3, b3, nl, gl3, nd, wl, hw⟩
      have ⟨lt, lc⟩ := tp.new nl
      walk_at "rd"
      refine Rd.cut (fun σ H' => ∃ (ws : List Str), σ = [some (.ref t), some (.str z), some (.str L), some (.int most), some (.int kind), some (.ref l), none, none] ∧ Tape H' t c ∧ Rd.But t H H' ∧ H' l = some (.lst (ws.map V.str)) ∧ ws.Nodup ∧ ws.length ≤ 8 ∧ ∀ y ∈ ws, Lt.Wd 12 y) ?_ ?_
      · walk_at "rd"
        refine ite2 (fun q => ?_) (fun q => ?_)
        · walk_at "rd"
          refine Rd.len (.inl (.of gl3)) ?_
          rw [List.length_map]
          walk_at "rd"
          refine ite2 (fun q => ?_) (fun q => ?_)
          · walk_at "rd"
            refine Rd.tyL (.of gl3) ?_
            walk_at "rd"
            refine Rd.len (.inl (.of gl3)) ?_
            rw [List.length_map]
            walk_at "rd"
            refine pickR tp3 (by omega) (by omega) fun r H4 r0 r1 tp4 b4 => ?_
            walk_at "rd"
            have gl4 := b4 l _ lt gl3
            have rl : r.toNat < ws.length := by omega
            refine Rd.popAt gl4 r0 (by rw [List.length_map]; omega) (by rw [List.length_map]; omega) (Rd.map_str rl) fun G5 g5 off5 => ?_
            walk_at "rd"
            refine ⟨ws.eraseIdx r.toNat, rfl, tp4.off lt lc off5, but_off (b3.trans b4) nl off5, ?_, nd.sublist (List.eraseIdx_sublist _ _), Nat.le_trans (List.length_eraseIdx_le _ _) wl, fun y hy => hw y (List.mem_of_mem_eraseIdx hy)⟩
            rw [g5]
            congr 2
            simp [List.eraseIdx_eq_take_drop_succ]
          · walk_at "rd"
            exact ⟨ws, rfl, tp3, b3, gl3, nd, wl, hw⟩
        · walk_at "rd"
          exact ⟨ws, rfl, tp3, b3, gl3, nd, wl, hw⟩
      · rintro _ H4 ⟨ws, rfl, tp4, b4, gl4, nd, wl, hw⟩
        walk_at "rd"
        refine Rd.forS ?_
        walk_at "rd"
        refine pickR tp4 (by decide) (by decide) fun r H5 r0 r1 tp5 b5 => ?_
        walk_at "rd"
        refine ⟨by omega, by omega, ?_⟩
        refine for_range (lo := 0) (n := r.toNat) (fun i σ H' => ∃ (ws : List Str) (o1 o2 : Option V), σ = [some (.ref t), some (.str z), some (.str L), some (.int most), some (.int kind), some (.ref l), o1, o2] ∧ Tape H' t c ∧ Rd.But t H H' ∧ H' l = some (.lst (ws.map V.str)) ∧ ws.Nodup ∧ ws.length ≤ 8 + i ∧ ∀ y ∈ ws, Lt.Wd 12 y)
          ⟨ws, none, none, rfl, tp5, b4.trans b5, b5 l _ lt gl4, nd, wl, hw⟩ ?_ ?_
        · rintro i _ H6 hi ⟨ws, o1, o2, rfl, tp6, b6, gl6, nd, wl, hw⟩
          walk_at "rd"
          refine ⟨t, c, z, rfl, tp6, hz, z0, z1, fun y H7 hy tp7 b7 => ?_⟩
          have gl7 := b7 l _ lt gl6
          walk_at "rd"
          refine Rd.cut (fun σ H' => ∃ (y : Str), σ = [some (.ref t), some (.str z), some (.str L), some (.int most), some (.int kind), some (.ref l), some (.int (0 + (i : Int))), some (.str y)] ∧ Tape H' t c ∧ Rd.But t H H' ∧ H' l = some (.lst (ws.map V.str)) ∧ Lt.Wd 12 y) ?_ ?_
          · walk_at "rd"
            refine pickR tp7 (by decide) (by decide) fun r8 H8 _ _ tp8 b8 => ?_
            have gl8 := b8 l _ lt gl7
            walk_at "rd"
            refine ite2 (fun q => ?_) (fun q => ?_)
            · walk_at "rd"
              refine ⟨t, c, L, 1, 4, rfl, tp8, hL, L0, L1, by decide, by decide, by decide, fun y' H9 hy' y0 y1 tp9 b9 => ?_⟩
              walk_at "rd"
              exact ⟨y', rfl, tp9, ((b6.trans b7).trans b8).trans b9, b9 l _ lt gl8, hy', by omega, by omega⟩
            · walk_at "rd"
              exact ⟨y, rfl, tp8, (b6.trans b7).trans b8, gl8, hy⟩
          · rintro _ H9 ⟨y, rfl, tp9, b9, gl9, hy⟩
            walk_at "rd"
            refine Rd.inStrsN (.inl (.of gl9)) ?_
            walk_at "rd"
            refine ite2 (fun q => ?_) (fun q => ?_)
            · walk_at "rd"
              exact ⟨ws, _, _, rfl, tp9, b9, gl9, nd, by omega, hw⟩
            · walk_at "rd"
              refine Rd.tyL (.of gl9) ?_
              walk_at "rd"
              refine Rd.len (.inl (.of gl9)) ?_
              rw [List.length_map]
              walk_at "rd"
              refine pickR tp9 (by omega) (by omega) fun p G1 p0 p1 tq bq => ?_
              walk_at "rd"
              have glq := bq l _ lt gl9
              refine Rd.insert glq (by rw [List.length_map, sizeLine_eq]; omega) p0 (by omega) fun G2 g2 off2 => ?_
              walk_at "rd"
              have mem : ∀ x, x ∈ ws.take p.toNat ++ [y] ++ ws.drop p.toNat ↔ x ∈ ws ∨ x = y := fun x => by
                rw [List.mem_append, List.mem_append, List.mem_singleton]
                constructor
                · rintro ((h | h) | h)
                  · exact .inl (List.mem_of_mem_take h)
                  · exact .inr h
                  · exact .inl (List.mem_of_mem_drop h)
                · rintro (h | h)
                  · rw [← List.take_append_drop p.toNat ws] at h
                    rcases List.mem_append.mp h with h | h
                    · exact .inl (.inl h)
                    · exact .inr h
                  · exact .inl (.inr h)
              refine ⟨ws.take p.toNat ++ [y] ++ ws.drop p.toNat, _, _, rfl, tq.off lt lc off2, but_off (b9.trans bq) nl off2, ?_, ?_, ?_, fun x hx => ?_⟩
              · rw [g2, List.map_append, List.map_append, List.map_take, List.map_drop]
                rfl
              · have nd2 := nd
                rw [← List.take_append_drop p.toNat ws, List.nodup_append] at nd2
                obtain ⟨n1, n2, n3⟩ := nd2
                rw [List.nodup_append, List.nodup_append]
                refine ⟨⟨n1, by simp, fun x hx w hw e => q ?_⟩, n2, fun x hx w hw e => ?_⟩
                · simp at hw
                  rw [← hw, ← e]
                  exact List.mem_of_mem_take hx
                · rcases List.mem_append.mp hx with h | h
                  · exact n3 x h w hw e
                  · simp at h
                    rw [h] at e
                    rw [e] at q
                    exact q (List.mem_of_mem_drop hw)
              · rw [List.length_append, List.length_append, List.length_take, List.length_drop, List.length_singleton]
                omega
              · rcases (mem x).mp hx with h | h
                · exact hw x h
                · rw [h]
                  exact hy
        · rintro _ H6 ⟨ws, o1, o2, rfl, tp6, b6, gl6, nd, wl, hw⟩
          walk_at "rd"
          refine Rd.slL (.of gl6) (Rd.new fun d G7 ndw gd s7 => ?_)
          have ec : cutV (ws.map V.str) none (some most) = (ws.take most.toNat).map V.str := by
            rw [List.map_take]
            exact cut_toI m0
          rw [ec] at gd
          have dt := (tp6.new ndw).1
          refine k d (ws.take most.toNat) G7 (tp6.same s7) (b6.same s7) (b6.free dt ndw) gd ⟨nd.sublist (List.take_sublist _ _), ?_, fun y hy => hw y (List.mem_of_mem_take hy)⟩ ?_ <;> rw [List.length_take] <;> omega

end
end W

namespace W
open PySem PySem.Spec PyProof.Rows L2
section
variable {P : Program} {w : World} {K : PySem.W.Frag} {mg : Str → Option Value} {base : Heap}
/-! ### masks by their sizes, chosen things -/
open Mb (chs bySize sized pc)
theorem rg0 {i : Nat} {x : V} (h : x = .int (0 + (i : Int))) : x = .int (i : Nat) := by rw [h, Int.zero_add]
theorem natV_snoc {P : List Nat} {i : Nat} : natV P ++ [.int (i : Nat)] = natV (P ++ [i]) := by
  unfold natV
  rw [List.map_append, List.map_append]
  rfl
theorem natV_app (P R : List Nat) : natV (P ++ R) = natV P ++ natV R := by
  unfold natV
  rw [List.map_append, List.map_append]
theorem take_range (n i : Nat) (h : i < n) : (List.range n).take (i + 1) = (List.range n).take i ++ [i] := by
  rw [List.take_succ, List.getElem?_range h]
  rfl
theorem range_snoc (n : Nat) : List.range (n + 1) = List.range n ++ [n] := List.range_succ
theorem pc_sum (n m : Nat) : (((List.range n).map fun i => m / 2 ^ i % 2).map fun j : Nat => (j : Int)).sum = (pc n m : Nat) := by
  induction n with
  | zero => rfl
  | succ n ih =>
    rw [range_snoc, List.map_append, List.map_append, List.sum_append, ih]
    show ((pc n m : Nat) : Int) + ((m / 2 ^ n % 2 : Nat) + 0) = ((pc n m + m / 2 ^ n % 2 : Nat) : Int)
    omega
def sp_masks_by_size (K : PySem.W.Frag) : Sp := fun vs H Q _ => ∃ n : Nat, vs = [.int (n : Nat)] ∧ n ≤ 12 ∧ ∀ (l : Addr) H', Same H H' → H l = none → H' l = some (.lst (natV (bySize n))) → Q (.ref l) H'
def sp_chosen (K : PySem.W.Frag) : Sp := fun vs H Q _ => ∃ (a : Addr) (zs : List Str) (m : Nat), vs = [.ref a, .int (m : Nat)] ∧ SqL K H a (zs.map V.str) ∧ zs.length ≤ 1000 ∧ ∀ (l : Addr) H', Same H H' → H l = none → H' l = some (.lst ((chs zs m).map V.str)) → Q (.ref l) H'
/-- the rows of masks -/
def BySz (H : Hp) (rs : List Addr) (n i : Nat) : Prop := ∀ (s : Nat) (r : Addr), rs[s]? = some r → H r = some (.lst (natV (((List.range i).filter fun m => decide (pc n m = s)))))
theorem pow12 {n : Nat} (h : n ≤ 12) : 2 ^ n ≤ 4096 := Nat.pow_le_pow_right (n := 2) (by decide) h
theorem filt_len (n i s : Nat) : ((List.range i).filter fun m => decide (pc n m = s)).length ≤ i := Nat.le_trans (List.length_filter_le _ _) (by rw [List.length_range]; exact Nat.le_refl _)
theorem ok_masks_by_size (T : Txt K mg) : FnOk P w K mg base CX0 1 T.f_masks_by_size T.fd_masks_by_size ["many"] (sp_masks_by_size K) := by
  refine T.F_masks_by_size.ok sc_masks_by_size (fun vs H Q E h => ?_) (fun cdv A outer s H vs Q E hr h => ?_)
  · obtain ⟨n, rfl, _⟩ := h
    rfl
  · obtain ⟨n, rfl, n12, k⟩ := h
    refine ⟨_, (pss_cons (ps_setLc (i := 1) (own := [("size", 3)]) (g := gName 3) (tt := tYes) rfl sc_masks_by_size.nd rfl rfl (sw_true rfl rfl rfl (by decide +kernel)) (pi_range1 rfl T.n_range (pa_cons (pe_op op_add (pv 0) pe_int) pa_nil)) (blkOk_by (own := [("size", 3)]) (N := ["many", "rows", "mask", "size", "row", "at"]) (sc := defScope s_masks_by_size) (by decide +kernel)) (fun _ _ _ _ _ => (pg_name (i := 3) sc_masks_by_size.nd rfl (.inl rfl))) (fun _ _ _ _ _ => pts_nil) (fun _ _ _ _ _ => (pe_lst pa_nil)))
  (pss_cons (ps_for PassesOwn.never rfl (pi_range1 rfl T.n_range (pa_cons (pe_op op_shl pe_int (pv 0)) pa_nil)) (pg_name (i := 2) sc_masks_by_size.nd rfl (by first | exact .inr rfl | exact .inl rfl))
  (pss_one (ps_expr (pe_bm PySem.F.plainAttrs_list PySem.F.slot_list_append PySem.F.type_list_append mt_append (pe_ix (r := rIxL K) ix_list (pv 1) (pe_callB (id := "sum") (r := rSum K) (cr_sum rfl) (by rfl) T.n_sum (by decide +kernel) (pa_cons (pe_lc (own := [("at", 5)]) (g := gName 5) (tt := tYes) rfl sc_masks_by_size.nd (pi_range1 rfl T.n_range (pa_cons (pv 0) pa_nil)) (blkOk_by (own := [("at", 5)]) (N := ["many", "rows", "mask", "size", "row", "at"]) (sc := defScope s_masks_by_size) (by decide +kernel)) (fun _ _ _ _ _ => (pg_name (i := 5) sc_masks_by_size.nd rfl (.inl rfl))) (fun _ _ _ _ _ => pts_nil) (fun _ _ _ _ _ => (pe_op op_and (pe_op op_shr (pv 2) (pv 5)) pe_int))) pa_nil)) (fun _ _ => rfl)) (pa_cons (pv 2) pa_nil)))))
  (pss_one (ps_ret (pe_lc2 (own := [("row", 4), ("mask", 2)]) (vs1 := [2]) (g := gName 4) (g1 := gName 2) (tt := tYes) (tt1 := tYes) rfl sc_masks_by_size.nd (pi_list (pv 1)) (blkOk_by (own := [("row", 4), ("mask", 2)]) (N := ["many", "rows", "mask", "size", "row", "at"]) (sc := defScope s_masks_by_size) (by decide +kernel)) (by decide) (fun _ _ _ _ _ => (pg_name (i := 4) sc_masks_by_size.nd rfl (.inl rfl))) (fun _ _ _ _ _ => pts_nil) (fun _ _ _ _ _ => (Ry.pi_listK (K := K) rfl (pv 4))) (fun _ _ _ _ _ => (pg_name (i := 2) sc_masks_by_size.nd rfl (by first | exact .inl rfl | exact .inr rfl))) (fun _ _ _ _ _ => pts_nil) (fun _ _ _ _ _ => (pv 2))))))), ?_⟩
    have p12 := pow12 n12
    obtain ⟨N, hN⟩ : ∃ N, 2 ^ n = N := ⟨_, rfl⟩
    rw [hN] at p12
    walk_at "rd"
    refine ⟨by omega, by omega, ?_⟩
    refine Rd.lcS walk_range (fun _ _ => trivial) (fun D i acc Hc => ∃ rs : List Addr, acc = rs.map V.ref ∧ rs.length = i ∧ rs.Nodup ∧ ∀ r ∈ rs, r ≠ D ∧ H r = none ∧ Hc r = some (.lst [])) (fun _ _ _ _ _ => ⟨[], rfl, rfl, .nil, fun _ m => (nomatch m)⟩) ?_ ?_
    · rintro D i x G _ acc nD hi hD sm ⟨rs, rfl, rl, nd, hr⟩ ⟨rfl, rfl⟩
      walk_at "rd"
      refine ⟨rfl, ?_⟩
      walk_at "rd"
      refine ⟨Nat.zero_le _, Rd.new fun p G2 np gp s2 => ?_⟩
      have pD := (ne_of_none hD np).symm
      refine Rd.lcPush (s2 _ _ hD) nD (sm.trans s2) (by rw [List.length_map, rl, sizeLine_eq]; omega) fun G3 g3 off => ?_
      refine ⟨rs ++ [p], by rw [List.map_append]; rfl, by rw [List.length_append, rl]; rfl, ?_, fun r m => ?_⟩
      · rw [List.nodup_append]
        refine ⟨nd, by simp, fun a ha b hb => ?_⟩
        rw [List.mem_singleton.mp hb]
        exact ne_of_none (hr a ha).2.2 np
      · rcases List.mem_append.mp m with m | m
        · obtain ⟨h1, h2, h3⟩ := hr r m
          exact ⟨h1, h2, by rw [off r h1]; exact s2 _ _ h3⟩
        · cases List.mem_singleton.mp m
          exact ⟨pD, sm.free np, by rw [off _ pD]; exact gp⟩
    · rintro R acc G nR hR sm ⟨rs, rfl, rl, nd, hr⟩
      have rl : rs.length = n + 1 := by omega
      walk_at "rd"
      refine Rd.forS ?_
      walk_at "rd"
      refine Rd.iC ⟨by omega, by omega, by decide⟩ ?_
      rw [Rb.shl1, hN]
      walk_at "rd"
      refine ⟨by omega, by omega, ?_⟩
      refine for_range (lo := 0) (n := ((N : Nat) : Int).toNat) (fun i σ H' => ∃ (o2 : Option V), σ = [some (.int (n : Nat)), some (.ref R), o2, none, none, none] ∧ Same H H' ∧ H' R = some (.lst (rs.map V.ref)) ∧ BySz H' rs n i)
        ⟨_, rfl, sm, hR, fun s r e => (hr r (List.mem_of_getElem? e)).2.2⟩ ?_ ?_
      · rintro i _ H2 hi ⟨o2, rfl, s2, gR, B⟩
        have hi2 : i < N := by omega
        walk_at "rd"
        refine ⟨by omega, by omega, ?_⟩
        refine Rd.lcS walk_range (fun _ _ => trivial) (fun D j acc _ => acc = natV ((List.range j).map fun a => i / 2 ^ a % 2)) (fun _ _ _ _ _ => rfl) ?_ ?_
        · rintro D j x G4 _ acc nD hj hD sm4 rfl ⟨rfl, hx⟩
          obtain rfl := rg0 hx
          walk_at "rd"
          refine ⟨rfl, ?_⟩
          walk_at "rd"
          refine Rd.iC (by omega) ?_
          walk_at "rd"
          rw [Int.zero_add, Rb.bitN]
          refine Rd.lcPush hD nD sm4 (by rw [natV_len, List.length_map, List.length_range, sizeLine_eq]; omega) fun G5 g5 off5 => ?_
          show natV _ ++ [.int (((i / 2 ^ j % 2 : Nat) : Int))] = natV ((List.range (j + 1)).map _)
          rw [natV_snoc, range_snoc, List.map_append]
          rfl
        · rintro D acc G4 nD hD sm4 rfl
          walk_at "rd"
          refine Rd.sum (.of hD) ?_
          rw [show ((n : Nat) : Int).toNat = n by omega, pc_sum]
          have pl := Mb.pc_le n i
          obtain ⟨r, er⟩ : ∃ r, rs[pc n i]? = some r := ⟨_, List.getElem?_eq_getElem (by omega)⟩
          refine Rd.ixL (.of (sm4 _ _ gR)) (atI_nat (j := pc n i) (by rw [List.getElem?_map, er]; rfl)) ?_
          walk_at "rd"
          have gr := sm4 _ _ (B _ _ er)
          refine Rd.tyL (.of gr) ?_
          walk_at "rd"
          have fl := filt_len n i (pc n i)
          refine Rd.app gr (by rw [natV_len, sizeLine_eq]; omega) fun G5 g5 off5 => ?_
          obtain ⟨rR, nr, _⟩ := hr r (List.mem_of_getElem? er)
          refine ⟨_, rfl, fun b o e => ?_, by rw [off5 R rR.symm]; exact sm4 _ _ gR, fun s q eq => ?_⟩
          · rw [off5 b (ne_of_none e nr)]
            exact sm4 _ _ (s2 _ _ e)
          · rw [range_snoc, List.filter_append]
            by_cases c : s = pc n i
            · subst c
              rw [er] at eq
              cases eq
              rw [List.filter_cons_of_pos (by simp), List.filter_nil, ← natV_snoc]
              rw [Int.zero_add] at g5
              exact g5
            · rw [List.filter_cons_of_neg (by simpa using fun e => c e.symm), List.filter_nil, List.append_nil]
              rw [off5 q (fun e => ?_)]
              · exact sm4 _ _ (B s q eq)
              · subst e
                obtain ⟨a1, a2⟩ := List.getElem?_eq_some_iff.mp eq
                obtain ⟨b1, b2⟩ := List.getElem?_eq_some_iff.mp er
                rcases Nat.lt_trichotomy s (pc n i) with x | x | x
                · exact (List.pairwise_iff_getElem.mp (List.nodup_iff_pairwise_ne.mp nd)) _ _ a1 b1 x (a2.trans b2.symm)
                · exact c x
                · exact (List.pairwise_iff_getElem.mp (List.nodup_iff_pairwise_ne.mp nd)) _ _ b1 a1 x (b2.trans a2.symm)
      · rintro _ H2 ⟨o2, rfl, s2, gR, B⟩
        rw [show ((N : Nat) : Int).toNat = 2 ^ n by omega] at B
        have B : ∀ (s : Nat) (r : Addr), rs[s]? = some r → H2 r = some (.lst (natV (sized n s))) := B
        walk_at "rd"
        refine Re.lc2 ?_
        walk_at "rd"
        have all : ∀ j, ((List.range j).flatMap (sized n)).length ≤ 4096 * j := fun j => by
          induction j with
          | zero => exact Nat.le_refl _
          | succ j ih =>
            rw [range_snoc, List.flatMap_append, List.length_append]
            have f2 : (sized n j).length ≤ 2 ^ n := filt_len n (2 ^ n) j
            show _ + ((sized n j) ++ []).length ≤ _
            rw [List.append_nil]
            omega
        refine ⟨⟨_, .of gR⟩, Re.lc2S walk_list (fun _ s => .of (s _ _ gR)) (fun D j acc Hc => acc = natV ((List.range j).flatMap (sized n))) (fun _ _ _ _ _ => rfl) ?_ ?_⟩
        · rintro D j x H3 _ acc nD hj hD sm3 rfl ⟨rfl, hx⟩
          obtain ⟨r, er, rfl⟩ := Rd.map_refG hx
          rw [List.length_map] at hj
          have gr := sm3 _ _ (B j r er)
          walk_at "rd"
          refine ⟨rfl, Rd.tyes ?_⟩
          walk_at "rd"
          have aj := all j
          have fl : (sized n j).length ≤ 2 ^ n := filt_len n (2 ^ n) j
          refine ⟨⟨_, .of gr⟩, Re.innerS walk_list (fun t acc _ => acc = natV ((List.range j).flatMap (sized n) ++ (sized n j).take t)) ⟨_, hD, sm3, by simp⟩ (fun _ s => .of (s _ _ (B j r er))) ?_ ?_⟩
          · rintro t x H4 _ acc ht hD4 sm4 rfl ⟨rfl, hx⟩
            obtain ⟨m, hm, rfl⟩ := natV_get hx
            walk_at "rd"
            refine ⟨rfl, Rd.tyes ?_⟩
            walk_at "rd"
            refine Rd.lcPush hD4 nD sm4 ?_ fun G g off => ?_
            · rw [natV_len, List.length_append, List.length_take, sizeLine_eq]
              omega
            · rw [natV_snoc, List.append_assoc, Rd.take_snoc hm]
          · rintro acc H4 hD4 sm4 rfl
            show _ = natV ((List.range (j + 1)).flatMap (sized n))
            rw [natV_len, List.take_length, range_snoc, List.flatMap_append]
            simp
        · rintro D acc H3 nD hD sm3 rfl
          rw [List.length_map, rl] at hD
          exact k D H3 (s2.trans sm3) (s2.free nD) hD
theorem ok_chosen (T : Txt K mg) : FnOk P w K mg base CX0 1 T.f_chosen T.fd_chosen ["things", "mask"] (sp_chosen K) := by
  refine T.F_chosen.ok sc_chosen (fun vs H Q E h => ?_) (fun cdv A outer s H vs Q E hr h => ?_)
  · obtain ⟨a, zs, m, rfl, _⟩ := h
    rfl
  · obtain ⟨a, zs, m, rfl, hS, zl, k⟩ := h
    refine ⟨_, (pss_one (ps_ret (pe_lc (own := [("at", 2), ("thing", 3)]) (g := gTup K 2 (gCons (gName 2) (gCons (gName 3) gNil)))  rfl sc_chosen.nd (pi_enum (by rfl) T.n_enumerate (pa_cons (pv 0) pa_nil)) (blkOk_by (own := [("at", 2), ("thing", 3)]) (N := ["things", "mask", "at", "thing"]) (sc := defScope s_chosen) (by decide +kernel)) (fun _ _ _ _ _ => (pg_tup rfl (pgs_cons (pg_name (i := 2) sc_chosen.nd rfl (.inl rfl)) (pgs_cons (pg_name (i := 3) sc_chosen.nd rfl (.inl rfl)) pgs_nil)))) (fun _ _ _ _ _ => pts_one (pt_cmpR op_eq (pe_op op_and (pe_op op_shr (pv 1) (pv 2)) pe_int) pe_int (nomark _))) (fun _ _ _ _ _ => (pv 3))))), ?_⟩
    walk_at "rd"
    unfold iEnum
    walk_at "rd"
    refine ⟨a, _, rfl, hS, Rd.lcS Rk.walk_enum (fun _ s => s.seq hS) (fun D i acc _ => acc = (chs (zs.take i) m).map V.str) (fun _ _ _ _ _ => rfl) ?_ ?_⟩
    · rintro D i x G _ acc nD hi hD sm rfl ⟨t, y, rfl, nt, rfl, hy⟩
      obtain ⟨z, hz, rfl⟩ := Rd.map_strG hy
      have st := Rd.same_upd (o := .tup [.int (i : Nat), .str z]) nt
      refine Rd.tupT (.of upd_same) rfl ?_
      generalize upd G t (.tup [.int (i : Nat), .str z]) = G2 at st
      walk_at "rd"
      refine ⟨rfl, ?_⟩
      walk_at "rd"
      refine Rd.iC (by omega) ?_
      walk_at "rd"
      rw [Rb.bitN]
      have cl : (chs (zs.take i) m).length ≤ zs.length := Nat.le_trans (Mb.chs_sublist _ _).length_le (by rw [List.length_take]; omega)
      by_cases c : m.testBit i = true
      · have b := (Mb.bit_div m i).mpr c
        refine Rd.yes (by rw [b]; rfl) ?_
        walk_at "rd"
        refine Rd.lcPush (st _ _ hD) nD (sm.trans st) (by rw [List.length_map, sizeLine_eq]; omega) fun G3 _ _ => ?_
        rw [Mb.chs_take hz, if_pos c, List.map_append]
        rfl
      · have b : ¬ m / 2 ^ i % 2 = 1 := fun e => c ((Mb.bit_div m i).mp e)
        refine Rd.no (by omega) ?_
        refine ⟨_, st _ _ hD, sm.trans st, ?_⟩
        show _ = (chs (zs.take (i + 1)) m).map V.str
        rw [Mb.chs_take hz, if_neg c, List.append_nil]
    · rintro D acc G nD hD sm rfl
      rw [List.length_map, List.take_length] at hD
      exact k D G sm nD hD

end
end W

namespace W
open PySem PySem.Spec PyProof.Rows L2
section
variable {P : Program} {w : World} {K : PySem.W.Frag} {mg : Str → Option Value} {base : Heap}
/-! ### the law's own order and words -/
def sp_l_in_order (K : PySem.W.Frag) : Sp := fun vs H Q _ => ∃ (a : Addr) (zs : List Str), vs = [.ref a] ∧ SqL K H a (zs.map V.str) ∧ zs.length ≤ 10000 ∧ (∀ z ∈ zs, z.length ≤ 1000) ∧ ∀ (l : Addr) H', Same H H' → H l = none → H' l = some (.lst ((inOrder zs).map V.str)) → Q (.ref l) H'
def PairAt (H : Hp) (x : V) (z : Str) : Prop := ∃ T : Addr, x = .ref T ∧ H T = some (.tup [.int (z.length : Nat), .str z])
theorem pairs_keep {H H' : Hp} (s : ∀ b xs, H b = some (.tup xs) → H' b = some (.tup xs)) : ∀ {as : List V} {zs : List Str}, PySem.W.EachIs (PairAt H) as zs → PySem.W.EachIs (PairAt H') as zs
  | _, _, .nil => .nil
  | _, _, .cons ⟨T, e, h⟩ t => .cons ⟨T, e, s _ _ h⟩ (pairs_keep s t)
theorem pairs_dp {K : PySem.W.Frag} {H : Hp} : ∀ {as : List V} {zs : List Str}, PySem.W.EachIs (PairAt H) as zs → PySem.W.EachIs (fun x z => Dp K H x (keyD z) ∧ PairAt H x z) as zs
  | _, _, .nil => .nil
  | _, _, .cons ⟨T, e, h⟩ t => .cons ⟨by rw [e]; exact .tup (.of h) (.cons (.int _) (.cons (.str _) .nil)), T, e, h⟩ (pairs_dp t)
theorem pairs_of {K : PySem.W.Frag} {H H' : Hp} (s : Same H H') : ∀ {as : List V} {zs : List Str}, PySem.W.EachIs (fun x z => Dp K H x (keyD z) ∧ PairAt H x z) as zs → PySem.W.EachIs (PairAt H') as zs
  | _, _, .nil => .nil
  | _, _, .cons ⟨_, T, e, h⟩ t => .cons ⟨T, e, s _ _ h⟩ (pairs_of s t)
theorem each_snoc2 {β : Type} {R : V → β → Prop} {x : V} {y : β} (hxy : R x y) : ∀ {as : List V} {bs : List β}, PySem.W.EachIs R as bs → PySem.W.EachIs R (as ++ [x]) (bs ++ [y])
  | _, _, .nil => .cons hxy .nil
  | _, _, .cons h t => .cons h (each_snoc2 hxy t)
end
end W

namespace W
open PySem PySem.Spec PyProof.Rows L2
section
variable {P : Program} {w : World} {K : PySem.W.Frag} {mg : Str → Option Value} {base : Heap}
/-! ### lots in order: by their numbers, then as rows of keys -/
def lotD (ws : List Str) : PyData := .tuple [.int (ws.length : Nat), .list (ws.map keyD)]
def inLots (L : List (List Str)) : List (List Str) := L.mergeSort (PySem.W.dataLe false lotD)
theorem alike_keys : ∀ a b : List Str, PySem.W.alikeAll (a.map keyD) (b.map keyD) = true
  | [], _ => by simp [PySem.W.alikeAll]
  | _ :: _, [] => by simp [PySem.W.alikeAll]
  | x :: a, y :: b => by
    have := alike_keys a b
    simp [PySem.W.alikeAll, PySem.W.alike, keyD, this]
theorem depth_keys : ∀ a : List Str, PyData.depthAll (a.map keyD) ≤ 1
  | [] => by decide
  | x :: a => Nat.max_le.mpr ⟨Nat.le_refl 1, depth_keys a⟩
theorem keys_lots (L : List (List Str)) : Rs.Keys (L.map lotD) where
  al d hd d' hd' := by
    obtain ⟨e, _, rfl⟩ := List.mem_map.mp hd
    obtain ⟨f, _, rfl⟩ := List.mem_map.mp hd'
    unfold lotD
    simp [PySem.W.alike, PySem.W.alikeAll, alike_keys]
  so := .inl fun d hd => by
    obtain ⟨e, _, rfl⟩ := List.mem_map.mp hd
    exact ⟨_, _, rfl⟩
  dp d hd := by
    obtain ⟨e, _, rfl⟩ := List.mem_map.mp hd
    have := depth_keys e
    show max 0 (max (PyData.depthAll (e.map keyD) + 1) 0) + 1 ≤ 50
    omega
theorem toks_key (z : Str) : PySem.W.keyToks (keyD z) = [.inl 1, .inl (z.length : Nat), .inl 1, .inr z.cps.toList, .inl 0] := by
  simp [keyD, PySem.W.keyToks, PySem.W.keyToksAll]
theorem toks_inj : ∀ {a b : List Str}, PySem.W.keyToksAll (a.map keyD) = PySem.W.keyToksAll (b.map keyD) → a = b
  | [], [], _ => rfl
  | [], y :: b, h => by simp [PySem.W.keyToksAll] at h
  | x :: a, [], h => by simp [PySem.W.keyToksAll] at h
  | x :: a, y :: b, h => by
    rw [List.map_cons, List.map_cons, PySem.W.toks_all_cons, PySem.W.toks_all_cons, toks_key, toks_key] at h
    simp only [List.cons_append, List.nil_append, List.cons.injEq, true_and, Sum.inr.injEq] at h
    rw [PySem.W.str_of_cps h.2.1, toks_inj h.2.2]
theorem lotD_inj {a b : List Str} (h1 : PySem.W.dataLe false lotD a b = true) (h2 : PySem.W.dataLe false lotD b a = true) : a = b := by
  replace h1 : (!PySem.W.dataLt (lotD b) (lotD a)) = true := h1
  replace h2 : (!PySem.W.dataLt (lotD a) (lotD b)) = true := h2
  rw [Bool.not_eq_true'] at h1 h2
  have e : PySem.W.keyToks (lotD a) = PySem.W.keyToks (lotD b) := PyProof.Rows.lex_total _ _ h2 h1
  have l : ∀ w : List Str, PySem.W.keyToks (lotD w) = .inl 1 :: .inl (w.length : Nat) :: .inl 1 :: (PySem.W.keyToksAll (w.map keyD) ++ [.inl 0]) := fun w => by
    show PySem.W.keyToksAll _ = _
    rw [PySem.W.toks_all_cons, PySem.W.toks_all_cons]
    rfl
  rw [l, l] at e
  simp only [List.cons.injEq, true_and] at e
  exact toks_inj (List.append_cancel_right e.2)
theorem inLots_perm {L M : List (List Str)} (p : L.Perm M) : inLots L = inLots M :=
  List.Perm.eq_of_pairwise (le := fun a b => PySem.W.dataLe false lotD a b = true) (fun a b _ _ => lotD_inj) (PySem.W.sort_pairwise (PySem.W.sortLe_total _ _ _) L) (PySem.W.sort_pairwise (PySem.W.sortLe_total _ _ _) M)
    (((List.mergeSort_perm L _).trans p).trans (List.mergeSort_perm M _).symm)
theorem inLots_mem {L : List (List Str)} (p : List Str) : p ∈ inLots L ↔ p ∈ L := (List.mergeSort_perm L _).mem_iff
theorem inLots_len (L : List (List Str)) : (inLots L).length = L.length := List.length_mergeSort _
/-- a lot, as a tuple or as a list -/
def LotT (H : Hp) (x : V) (w : List Str) : Prop := ∃ q, x = .ref q ∧ H q = some (.tup (w.map V.str))
def LotL (H : Hp) (x : V) (w : List Str) : Prop := ∃ q, x = .ref q ∧ H q = some (.lst (w.map V.str))
def LotR (H : Hp) (x : V) (w : List Str) : Prop := ∃ q r as, x = .ref q ∧ H q = some (.tup [.int (w.length : Nat), .ref r]) ∧ H r = some (.lst as) ∧ PySem.W.EachIs (PairAt H) as w
theorem each_imp {β : Type} {R S : V → β → Prop} (f : ∀ x b, R x b → S x b) : ∀ {as : List V} {bs : List β}, PySem.W.EachIs R as bs → PySem.W.EachIs S as bs
  | _, _, .nil => .nil
  | _, _, .cons h t => .cons (f _ _ h) (each_imp f t)
theorem LotT.keep {H H' : Hp} (s : ∀ b xs, H b = some (.tup xs) → H' b = some (.tup xs)) {x : V} {w : List Str} (h : LotT H x w) : LotT H' x w := let ⟨q, e, g⟩ := h; ⟨q, e, s _ _ g⟩
theorem LotT.same {H H' : Hp} (s : Same H H') {x : V} {w : List Str} (h : LotT H x w) : LotT H' x w := h.keep fun b xs g => s _ _ g
theorem LotL.same {H H' : Hp} (s : Same H H') {x : V} {w : List Str} (h : LotL H x w) : LotL H' x w := let ⟨q, e, g⟩ := h; ⟨q, e, s _ _ g⟩
theorem LotR.same {H H' : Hp} (s : Same H H') {x : V} {w : List Str} (h : LotR H x w) : LotR H' x w := let ⟨q, r, as, e, g1, g2, g3⟩ := h; ⟨q, r, as, e, s _ _ g1, s _ _ g2, pairs_keep (fun b xs g => s _ _ g) g3⟩
theorem LotR.dp {H : Hp} {x : V} {w : List Str} (h : LotR H x w) : Dp K H x (lotD w) := by
  obtain ⟨q, r, as, rfl, g1, g2, g3⟩ := h
  refine .tup (.of g1) (.cons (.int _) (.cons (.lst (.of g2) ?_) .nil))
  clear g1 g2
  induction g3 with
  | nil => exact .nil
  | cons h _ ih =>
    obtain ⟨T, rfl, h⟩ := h
    exact .cons (.tup (.of h) (.cons (.int _) (.cons (.str _) .nil))) ih
def LotN (D : Addr) (H : Hp) (x : V) (w : List Str) : Prop := ∃ q r as, x = .ref q ∧ H q = some (.tup [.int (w.length : Nat), .ref r]) ∧ H r = some (.lst as) ∧ PySem.W.EachIs (PairAt H) as w ∧ r ≠ D
theorem LotN.r {D : Addr} {H : Hp} {x : V} {w : List Str} (h : LotN D H x w) : LotR H x w := let ⟨q, r, as, e, g1, g2, g3, _⟩ := h; ⟨q, r, as, e, g1, g2, g3⟩
theorem LotN.put {D : Addr} {H H' : Hp} {ys : List V} (hD : H D = some (.lst ys)) (off : ∀ b, b ≠ D → H' b = H b) {x : V} {w : List Str} (h : LotN D H x w) : LotN D H' x w := by
  obtain ⟨q, r, as, e, g1, g2, g3, n⟩ := h
  have kp := fun b xs (g : H b = some (.tup xs)) => (show H' b = some (.tup xs) by rw [off b (ne_of g hD fun e => nomatch e)]; exact g)
  exact ⟨q, r, as, e, kp _ _ g1, by rw [off r n]; exact g2, pairs_keep kp g3, n⟩
theorem LotN.same {D : Addr} {H H' : Hp} (s : Same H H') {x : V} {w : List Str} (h : LotN D H x w) : LotN D H' x w := let ⟨q, r, as, e, g1, g2, g3, n⟩ := h; ⟨q, r, as, e, s _ _ g1, s _ _ g2, pairs_keep (fun b xs g => s _ _ g) g3, n⟩
/-- lots as tuples in a list -/
def LotsAt (H : Hp) (l : Addr) (L : List (List Str)) : Prop := ∃ xs, H l = some (.lst xs) ∧ PySem.W.EachIs (LotT H) xs L
def LotsL (H : Hp) (l : Addr) (L : List (List Str)) : Prop := ∃ xs, H l = some (.lst xs) ∧ PySem.W.EachIs (LotL H) xs L
theorem LotsAt.same {H H' : Hp} (s : Same H H') {l : Addr} {L : List (List Str)} (h : LotsAt H l L) : LotsAt H' l L := let ⟨xs, g, e⟩ := h; ⟨xs, s _ _ g, each_imp (fun _ _ q => q.same s) e⟩
theorem LotsL.same {H H' : Hp} (s : Same H H') {l : Addr} {L : List (List Str)} (h : LotsL H l L) : LotsL H' l L := let ⟨xs, g, e⟩ := h; ⟨xs, s _ _ g, each_imp (fun _ _ q => q.same s) e⟩
def lotTD (w : List Str) : PyData := .tuple (w.map .str)
theorem lots_dp {H : Hp} {l : Addr} {L : List (List Str)} (h : LotsAt H l L) : Dp K H (.ref l) (.list (L.map lotTD)) := by
  obtain ⟨xs, g, e⟩ := h
  refine .lst (.of g) ?_
  clear g
  induction e with
  | nil => exact .nil
  | cons h _ ih =>
    obtain ⟨q, rfl, h⟩ := h
    exact .cons (.tup (.of h) (Rd.dpAll_strs _)) ih
def sp_row_key (K : PySem.W.Frag) : Sp := fun vs H Q _ => ∃ (a : Addr) (ws : List Str), vs = [.ref a] ∧ H a = some (.tup (ws.map V.str)) ∧ ws.length ≤ 1000 ∧ (∀ z ∈ ws, z.length ≤ 1000) ∧ ∀ (p : Addr) H', Same H H' → LotR H' (.ref p) ws → Q (.ref p) H'
def sp_as_lots (K : PySem.W.Frag) : Sp := fun vs H Q _ => ∃ (a p : Addr) (zs : List Str) (ms : List Nat), vs = [.ref a, .ref p] ∧ SqL K H a (zs.map V.str) ∧ H p = some (.lst (natV ms)) ∧ zs.length ≤ 1000 ∧ (∀ z ∈ zs, z.length ≤ 1000) ∧ ms.length ≤ 10000 ∧
  ∀ (l : Addr) H', Same H H' → H l = none → LotsAt H' l (inLots (ms.map (Mb.chs zs))) → Q (.ref l) H'
def sp_l_lots_in_order (K : PySem.W.Frag) : Sp := fun vs H Q _ => ∃ (a : Addr) (L : List (List Str)), vs = [.ref a] ∧ LotsL H a L ∧ L.length ≤ 10000 ∧ (∀ w ∈ L, w.length ≤ 1000 ∧ ∀ z ∈ w, z.length ≤ 1000) ∧ ∀ (l : Addr) H', Same H H' → H l = none → LotsAt H' l (inLots L) → Q (.ref l) H'
theorem ok_row_key (T : Txt K mg) : FnOk P w K mg base CX0 2 T.f_row_key T.fd_row_key ["row"] (sp_row_key K) := by
  refine T.F_row_key.ok sc_row_key (fun vs H Q E h => ?_) (fun cdv A outer s H vs Q E hr h => ?_)
  · obtain ⟨a, ws, rfl, _⟩ := h
    rfl
  · obtain ⟨a, ws, rfl, ha, wl, wz, k⟩ := h
    refine ⟨_, (pss_one (ps_ret (pe_tup (pa_cons (pe_callB (id := "len") (r := Rd.nLen K) Rd.c_len (by rfl) T.n_len (by decide +kernel) (pa_cons (pv 0) pa_nil)) (pa_cons (pe_lc (own := [("text", 1)]) (g := gName 1) (tt := tYes) rfl sc_row_key.nd (pi_tup (pv 0)) (blkOk_by (own := [("text", 1)]) (N := ["row", "text"]) (sc := defScope s_row_key) (by decide +kernel)) (fun _ _ _ _ _ => (pg_name (i := 1) sc_row_key.nd rfl (.inl rfl))) (fun _ _ _ _ _ => pts_nil) (fun _ _ _ _ _ => (pe_call (ok_text_key T) (hr.mono (by decide)) rfl T.g_text_key T.F_text_key.kp T.b_text_key .nil pass0 (pa_cons (pv 1) pa_nil)))) pa_nil))))), ?_⟩
    walk_at "rd"
    refine Rd.len (.inr (.of ha)) ?_
    rw [List.length_map]
    walk_at "rd"
    refine ⟨⟨_, .of ha⟩, Rd.lcS walk_tup (fun _ s => .of (s _ _ ha)) (fun D i acc Hc => acc.length = i ∧ PySem.W.EachIs (PairAt Hc) acc (ws.take i)) (fun _ _ _ _ _ => ⟨rfl, .nil⟩) ?_ ?_⟩
    · rintro D i x G _ acc nD hi hD sm ⟨al, he⟩ ⟨rfl, hx⟩
      obtain ⟨z, hz, rfl⟩ := Rd.map_strG hx
      rw [List.length_map] at hi
      walk_at "rd"
      refine ⟨rfl, ?_⟩
      walk_at "rd"
      refine ⟨z, rfl, wz z (List.mem_of_getElem? hz), fun p G2 s2 gp => ?_⟩
      refine Rd.lcPush (s2 _ _ hD) nD (sm.trans s2) (by rw [sizeLine_eq]; omega) fun G3 g3 off => ?_
      have kp := fun b xs (g : G2 b = some (.tup xs)) => (show G3 b = some (.tup xs) by rw [off b (ne_of g (s2 _ _ hD) fun e => nomatch e)]; exact g)
      refine ⟨by rw [List.length_append, al]; rfl, ?_⟩
      rw [Rd.take_snoc hz]
      exact each_snoc2 ⟨p, rfl, kp _ _ gp⟩ (pairs_keep (fun b xs g => kp _ _ (s2 _ _ g)) he)
    · rintro D acc G nD hD sm ⟨al, he⟩
      rw [List.length_map, List.take_length] at he
      walk_at "rd"
      refine ⟨Nat.le_of_ble_eq_true rfl, Rd.new fun p G2 np gp s2 => ?_⟩
      exact k p G2 (sm.trans s2) ⟨p, D, acc, rfl, gp, s2 _ _ hD, pairs_keep (fun b xs g => s2 _ _ g) he⟩
theorem ok_as_lots (T : Txt K mg) : FnOk P w K mg base CX0 4 T.f_as_lots T.fd_as_lots ["things", "masks"] (sp_as_lots K) := by
  refine T.F_as_lots.ok sc_as_lots (fun vs H Q E h => ?_) (fun cdv A outer s H vs Q E hr h => ?_)
  · obtain ⟨a, p, zs, ms, rfl, _⟩ := h
    rfl
  · obtain ⟨a, p, zs, ms, rfl, ha, hp, zl, zz, ml, k⟩ := h
    refine ⟨_, (pss_one (ps_ret (pe_callBK (id := "sorted") (ks := [Str.ofString "key"]) (r := Rs.rSortK T.f_row_key (sp_row_key K) K) (Rs.cr_sortK (ok_row_key T) (hr.mono (by decide)) T.b_row_key) (by rfl) T.n_sorted (by decide +kernel) (pa_cons (pe_lc (own := [("mask", 2)]) (g := gName 2) (tt := tYes) rfl sc_as_lots.nd (pi_list (pv 1)) (blkOk_by (own := [("mask", 2)]) (N := ["things", "masks", "mask"]) (sc := defScope s_as_lots) (by decide +kernel)) (fun _ _ _ _ _ => (pg_name (i := 2) sc_as_lots.nd rfl (.inl rfl))) (fun _ _ _ _ _ => pts_nil) (fun _ _ _ _ _ => (pe_callTy (T := "tuple") (r := Rd.nTupOf K) Rd.c_tupOf (by rfl) T.n_tuple (by decide +kernel) (pa_cons (pe_call (ok_chosen T) (hr.mono (by decide)) rfl T.g_chosen T.F_chosen.kp T.b_chosen .nil pass0 (pa_cons (pv 0) (pa_cons (pv 2) pa_nil))) pa_nil)))) pa_nil) (pk_cons (pe_glob (v := .ref T.f_row_key) rfl T.g_row_key rfl) pk_nil)))), ?_⟩
    walk_at "rd"
    refine ⟨⟨_, .of hp⟩, Rd.lcS walk_list (fun _ s => .of (s _ _ hp)) (fun D i acc Hc => acc.length = i ∧ PySem.W.EachIs (LotT Hc) acc ((ms.take i).map (Mb.chs zs))) (fun _ _ _ _ _ => ⟨rfl, .nil⟩) ?_ ?_⟩
    · rintro D i x G _ acc nD hi hD sm ⟨al, he⟩ ⟨rfl, hx⟩
      obtain ⟨m, hm, rfl⟩ := natV_get hx
      rw [natV_len] at hi
      walk_at "rd"
      refine ⟨rfl, ?_⟩
      walk_at "rd"
      refine ⟨a, zs, m, rfl, sm.seq ha, zl, fun q G2 s2 nq gq => ?_⟩
      walk_at "rd"
      refine Rd.tupOf (.of gq) (Rd.new fun t G3 nt gt s3 => ?_)
      have s23 := s2.trans s3
      refine Rd.lcPush (s23 _ _ hD) nD (sm.trans s23) (by rw [sizeLine_eq]; omega) fun G4 g4 off => ?_
      have kp := fun b xs (g : G3 b = some (.tup xs)) => (show G4 b = some (.tup xs) by rw [off b (ne_of g (s23 _ _ hD) fun e => nomatch e)]; exact g)
      refine ⟨by rw [List.length_append, al]; rfl, ?_⟩
      rw [Rd.take_snoc hm, List.map_append]
      exact each_snoc2 ⟨t, rfl, kp _ _ gt⟩ (each_imp (fun x w q => q.keep fun b xs g => kp _ _ (s23 _ _ g)) he)
    · rintro D acc G nD hD sm ⟨al, he⟩
      rw [natV_len, List.take_length] at he
      walk_at "rd"
      refine Rw.sortK lotD (LotT G) (.of hD) he (keys_lots _) (fun x w G2 s2 m e => ?_) fun out q G2 ho nq gq s2 => ?_
      · obtain ⟨t, rfl, gt⟩ := e
        obtain ⟨c, _, rfl⟩ := List.mem_map.mp m
        have sl := Mb.chs_sublist zs c
        refine ⟨t, _, rfl, s2 _ _ gt, Nat.le_trans sl.length_le zl, fun z mz => zz z (sl.subset mz), fun r G3 s3 hr => ⟨s3, hr.dp⟩⟩
      · exact k q G2 (sm.trans s2) (sm.free nq) ⟨out, gq, each_imp (fun x w e => e.same s2) ho⟩
end
end W

namespace W
open PySem PySem.Spec PyProof.Rows L2
section
variable {P : Program} {w : World} {K : PySem.W.Frag} {mg : Str → Option Value} {base : Heap}
/-! ### the least masks for which a function is True -/
open Mb (leB bySize)
def sp_least_masks (K : PySem.W.Frag) (C : Addr → Sp → Prop) : Sp := fun vs H Q _ => ∃ (n : Nat) (f : Addr) (spf : Sp) (W : Nat → Bool), vs = [.int (n : Nat), .ref f] ∧ C f spf ∧ n ≤ 12 ∧
  (∀ (m : Nat) (H1 : Hp) (Q1 : VK), m < 2 ^ n → Same H H1 → (∀ H2, Same H1 H2 → Q1 (.bl (W m)) H2) → spf [.int (m : Nat)] H1 Q1 E0) ∧ ∀ (l : Addr) H', Same H H' → H l = none → H' l = some (.lst (natV ((bySize n).filter (leB W n)))) → Q (.ref l) H'
theorem natV_take (P : List Nat) (i : Nat) : (natV P).take i = natV (P.take i) := by
  unfold natV
  rw [List.map_take, List.map_take]
theorem split_at {α : Type} {xs : List α} {i : Nat} {x : α} (h : xs[i]? = some x) : xs = xs.take i ++ x :: xs.drop (i + 1) := by
  obtain ⟨l, e⟩ := List.getElem?_eq_some_iff.mp h
  rw [← e, List.getElem_cons_drop l, List.take_append_drop]
theorem bySize_len (n : Nat) : (bySize n).length = 2 ^ n := by
  rw [(Mb.bySize_perm n).length_eq, List.length_range]
theorem ok_least_masks (T : Txt K mg) : Rk.FnC P w K mg base 5 T.f_least_masks T.fd_least_masks ["many", "works"] 4 (sp_least_masks K) := by
  refine Rk.okC T.F_least_masks sc_least_masks (fun C vs H Q E h => ?_) (fun cdv A outer s H vs Q E hr h => ?_)
  · obtain ⟨n, f, spf, W, rfl, _⟩ := h
    rfl
  · obtain ⟨n, f, spf, W, rfl, hC, n12, hf, k⟩ := h
    refine ⟨_, (pss_cons (ps_set (i := 2) sc_least_masks.nd rfl (.inl rfl) (pe_lst pa_nil))
  (pss_cons (ps_for PassesOwn.never rfl (pi_list (pe_call (ok_masks_by_size T) (hr.mono (by decide)) rfl T.g_masks_by_size T.F_masks_by_size.kp T.b_masks_by_size .nil pass0 (pa_cons (pv 0) pa_nil))) (pg_name (i := 3) sc_least_masks.nd rfl (.inr rfl))
  (pss_one (ps_if (PW.pt (pw_and (pt_not (pt_val (pe_callB (id := "any") (r := rAny K) (cr_any rfl) (by rfl) T.n_any (by decide +kernel) (pa_cons (pe_lc (own := [("kept", 4)]) (g := gName 4) (tt := tYes) rfl sc_least_masks.nd (pi_list (pv 2)) (blkOk_by (own := [("kept", 4)]) (N := ["many", "works", "found", "mask", "kept"]) (sc := defScope s_least_masks) (by decide +kernel)) (fun _ _ _ _ _ => (pg_name (i := 4) sc_least_masks.nd rfl (.inl rfl))) (fun _ _ _ _ _ => pts_nil) (fun _ _ _ _ _ => (pe_cmpR op_eq (pe_op op_and (pv 3) (pv 4)) (pv 4) (nomark _)))) pa_nil)))) (pw_and1 (pt_val (Rk.pe_clo (kc := 4) (i := 1) hr (by decide) rfl passL rfl (.inl rfl) (pa_cons (pv 3) pa_nil))))))
  (pss_one (ps_expr (pe_bm PySem.F.plainAttrs_list PySem.F.slot_list_append PySem.F.type_list_append mt_append (pv 2) (pa_cons (pv 3) pa_nil))))
  pss_nil)))
  (pss_one (ps_ret (pv 2))))), ?_⟩
    have p12 := pow12 n12
    have bl := bySize_len n
    walk_at "rd"
    refine ⟨Nat.zero_le _, Rd.new fun F G nF gF sF => ?_⟩
    walk_at "rd"
    refine Rd.forS ?_
    walk_at "rd"
    refine ⟨n, rfl, n12, fun p G2 s2 np gp => ?_⟩
    have pF := (ne_of_none (s2 _ _ gF |> fun h => gF) np).symm
    walk_at "rd"
    refine ⟨⟨_, .of gp⟩, for_list (xs := natV (bySize n)) (fun i σ H' => ∃ (o3 : Option V), σ = [some (.int (n : Nat)), some (.ref f), some (.ref F), o3, none] ∧ Same H H' ∧ H' F = some (.lst (natV (((bySize n).take i).filter (leB W n)))) ∧ H' p = some (.lst (natV (bySize n))))
      ⟨_, rfl, sF.trans s2, s2 _ _ gF, gp⟩ (fun i σ H' _ ⟨_, _, _, _, g⟩ => .of g) ?_ ?_⟩
    · rintro i x _ H3 hx ⟨o3, rfl, s3, gF3, gp3⟩
      obtain ⟨m, hm, rfl⟩ := natV_get hx
      have il := (List.getElem?_eq_some_iff.mp hm).1
      have m2 : m < 2 ^ n := Mb.mem_bySize.mp (List.mem_of_getElem? hm)
      have st := Mb.least_step (W := W) (split_at hm)
      have fl : (((bySize n).take i).filter (leB W n)).length ≤ i := Nat.le_trans (List.length_filter_le _ _) (by rw [List.length_take]; omega)
      have next : ((bySize n).take (i + 1)).filter (leB W n) = ((bySize n).take i).filter (leB W n) ++ if leB W n m = true then [m] else [] := by
        rw [Rd.take_snoc hm, List.filter_append]
        congr 1
        by_cases c : leB W n m = true
        · rw [if_pos c, List.filter_cons_of_pos c, List.filter_nil]
        · rw [if_neg c, List.filter_cons_of_neg c, List.filter_nil]
      generalize hA : ((bySize n).take i).filter (leB W n) = A at st gF3 fl next
      walk_at "rd"
      refine ⟨⟨_, .of gF3⟩, Rd.lcS walk_list (fun _ s => .of (s _ _ gF3)) (fun D j acc _ => acc = ((A.take j).map fun k => decide (m &&& k = k)).map V.bl) (fun _ _ _ _ _ => rfl) ?_ ?_⟩
      · rintro D j x G4 _ acc nD hj hD sm rfl ⟨rfl, hx⟩
        obtain ⟨q, hq, rfl⟩ := natV_get hx
        rw [natV_len] at hj
        walk_at "rd"
        refine ⟨rfl, ?_⟩
        walk_at "rd"
        rw [Rb.andN]
        refine Rd.lcPush hD nD sm (by rw [List.length_map, List.length_map, List.length_take, sizeLine_eq]; omega) fun G5 _ _ => ?_
        rw [Rd.take_snoc hq, List.map_append, List.map_append]
        show _ ++ [V.bl _] = _ ++ [V.bl _]
        rw [show decide (((m &&& q : Nat) : Int) = ((q : Nat) : Int)) = decide (m &&& q = q) by rw [Bool.eq_iff_iff, decide_eq_true_iff, decide_eq_true_iff]; omega]
      · rintro D acc G4 nD hD sm rfl
        rw [natV_len, List.take_length] at hD
        walk_at "rd"
        refine Rd.any (.of hD) ?_
        rw [List.any_map, show (id ∘ fun k => decide (m &&& k = k)) = fun k => decide (m &&& k = k) from rfl]
        have s34 := s3.trans sm
        have keep : leB W n m = false → ∀ H5, Same G4 H5 → ∃ (o3 : Option V), [some (V.int (n : Nat)), some (.ref f), some (.ref F), some (.int (m : Nat)), none] = [some (.int (n : Nat)), some (.ref f), some (.ref F), o3, none] ∧ Same H H5 ∧ H5 F = some (.lst (natV (((bySize n).take (i + 1)).filter (leB W n)))) ∧ H5 p = some (.lst (natV (bySize n))) := fun c H5 s5 =>
          ⟨_, rfl, s34.trans s5, by rw [next, if_neg (by rw [c]; exact Bool.false_ne_true), List.append_nil]; exact (sm.trans s5) _ _ gF3, (sm.trans s5) _ _ gp3⟩
        cases ca : A.any fun k => decide (m &&& k = k) with
        | true =>
          walk_at "rd"
          refine keep ?_ G4 (Same.refl _)
          cases c : leB W n m with
          | false => rfl
          | true => exact absurd (st.mpr c).1 (by rw [ca]; exact fun e => nomatch e)
        | false =>
          walk_at "rd"
          refine ⟨f, spf, rfl, hC, ?_⟩
          walk_at "rd"
          refine hf m G4 _ m2 s34 fun G5 s5 => ?_
          cases cw : W m with
          | false =>
            walk_at "rd"
            refine keep ?_ G5 s5
            cases c : leB W n m with
            | false => rfl
            | true => exact absurd (st.mpr c).2 (by rw [cw]; exact fun e => nomatch e)
          | true =>
            have c : leB W n m = true := st.mp ⟨ca, cw⟩
            walk_at "rd"
            have gF5 := (sm.trans s5) _ _ gF3
            refine Rd.tyL (.of gF5) ?_
            walk_at "rd"
            refine Rd.app gF5 (by rw [natV_len, sizeLine_eq]; omega) fun G6 g6 off6 => ?_
            refine ⟨_, rfl, fun b o e => ?_, by rw [next, if_pos c, ← natV_snoc]; exact g6, by rw [off6 p pF]; exact (sm.trans s5) _ _ gp3⟩
            rw [off6 b (ne_of_none e nF)]
            exact s5 _ _ (s34 _ _ e)
    · rintro _ H3 ⟨o3, rfl, s3, gF3, gp3⟩
      rw [natV_len, List.take_length] at gF3
      walk_at "rd"
      exact k F H3 s3 nF gF3

end
end W

namespace W
open PySem PySem.Spec PyProof.Rows L2
section
variable {P : Program} {w : World} {K : PySem.W.Frag} {mg : Str → Option Value} {base : Heap}
/-! ### the greatest masks for which a function is False -/
open Mb (grB bySize)
def sp_greatest_masks (K : PySem.W.Frag) (C : Addr → Sp → Prop) : Sp := fun vs H Q _ => ∃ (n : Nat) (f : Addr) (spf : Sp) (W : Nat → Bool), vs = [.int (n : Nat), .ref f] ∧ C f spf ∧ n ≤ 12 ∧
  (∀ (m : Nat) (H1 : Hp) (Q1 : VK), m < 2 ^ n → Same H H1 → (∀ H2, Same H1 H2 → Q1 (.bl (W m)) H2) → spf [.int (m : Nat)] H1 Q1 E0) ∧ ∀ (l : Addr) H', Same H H' → H l = none → H' l = some (.lst (natV ((bySize n).reverse.filter (grB W n)))) → Q (.ref l) H'
theorem ok_greatest_masks (T : Txt K mg) : Rk.FnC P w K mg base 5 T.f_greatest_masks T.fd_greatest_masks ["many", "works"] 4 (sp_greatest_masks K) := by
  refine Rk.okC T.F_greatest_masks sc_greatest_masks (fun C vs H Q E h => ?_) (fun cdv A outer s H vs Q E hr h => ?_)
  · obtain ⟨n, f, spf, W, rfl, _⟩ := h
    rfl
  · obtain ⟨n, f, spf, W, rfl, hC, n12, hf, k⟩ := h
    refine ⟨_, (pss_cons (ps_set (i := 2) sc_greatest_masks.nd rfl (.inl rfl) (pe_lst pa_nil))
  (pss_cons (ps_for PassesOwn.never rfl (pi_list (pe_revL (pe_call (ok_masks_by_size T) (hr.mono (by decide)) rfl T.g_masks_by_size T.F_masks_by_size.kp T.b_masks_by_size .nil pass0 (pa_cons (pv 0) pa_nil)))) (pg_name (i := 3) sc_greatest_masks.nd rfl (.inr rfl))
  (pss_one (ps_if (PW.pt (pw_and (pt_not (pt_val (pe_callB (id := "any") (r := rAny K) (cr_any rfl) (by rfl) T.n_any (by decide +kernel) (pa_cons (pe_lc (own := [("kept", 4)]) (g := gName 4) (tt := tYes) rfl sc_greatest_masks.nd (pi_list (pv 2)) (blkOk_by (own := [("kept", 4)]) (N := ["many", "works", "found", "mask", "kept"]) (sc := defScope s_greatest_masks) (by decide +kernel)) (fun _ _ _ _ _ => (pg_name (i := 4) sc_greatest_masks.nd rfl (.inl rfl))) (fun _ _ _ _ _ => pts_nil) (fun _ _ _ _ _ => (pe_cmpR op_eq (pe_op op_and (pv 3) (pv 4)) (pv 3) (nomark _)))) pa_nil)))) (pw_and1 (pt_not (pt_val (Rk.pe_clo (kc := 4) (i := 1) hr (by decide) rfl passL rfl (.inl rfl) (pa_cons (pv 3) pa_nil)))))))
  (pss_one (ps_expr (pe_bm PySem.F.plainAttrs_list PySem.F.slot_list_append PySem.F.type_list_append mt_append (pv 2) (pa_cons (pv 3) pa_nil))))
  pss_nil)))
  (pss_one (ps_ret (pv 2))))), ?_⟩
    have p12 := pow12 n12
    have bl := bySize_len n
    walk_at "rd"
    refine ⟨Nat.zero_le _, Rd.new fun F G nF gF sF => ?_⟩
    walk_at "rd"
    refine Rd.forS ?_
    walk_at "rd"
    refine ⟨n, rfl, n12, fun p0 G1 s1 np0 gp0 => ?_⟩
    refine ⟨p0, _, rfl, .of gp0, ?_⟩
    rw [show (natV (bySize n)).reverse = natV (bySize n).reverse by unfold natV; rw [List.map_reverse, List.map_reverse]]
    refine Rd.new fun p G2 np gp s2' => ?_
    have s2 := s1.trans s2'
    have pF := (ne_of_none (s1 _ _ gF) np).symm
    have bl : (bySize n).reverse.length = 2 ^ n := by rw [List.length_reverse, bl]
    walk_at "rd"
    refine ⟨⟨_, .of gp⟩, for_list (xs := natV (bySize n).reverse) (fun i σ H' => ∃ (o3 : Option V), σ = [some (.int (n : Nat)), some (.ref f), some (.ref F), o3, none] ∧ Same H H' ∧ H' F = some (.lst (natV (((bySize n).reverse.take i).filter (grB W n)))) ∧ H' p = some (.lst (natV (bySize n).reverse)))
      ⟨_, rfl, sF.trans s2, s2 _ _ gF, gp⟩ (fun i σ H' _ ⟨_, _, _, _, g⟩ => .of g) ?_ ?_⟩
    · rintro i x _ H3 hx ⟨o3, rfl, s3, gF3, gp3⟩
      obtain ⟨m, hm, rfl⟩ := natV_get hx
      have il := (List.getElem?_eq_some_iff.mp hm).1
      have m2 : m < 2 ^ n := Mb.mem_bySize.mp (List.mem_reverse.mp (List.mem_of_getElem? hm))
      have st := Mb.great_step (W := W) (split_at hm)
      have fl : (((bySize n).reverse.take i).filter (grB W n)).length ≤ i := Nat.le_trans (List.length_filter_le _ _) (by rw [List.length_take]; omega)
      have next : ((bySize n).reverse.take (i + 1)).filter (grB W n) = ((bySize n).reverse.take i).filter (grB W n) ++ if grB W n m = true then [m] else [] := by
        rw [Rd.take_snoc hm, List.filter_append]
        congr 1
        by_cases c : grB W n m = true
        · rw [if_pos c, List.filter_cons_of_pos c, List.filter_nil]
        · rw [if_neg c, List.filter_cons_of_neg c, List.filter_nil]
      generalize hA : ((bySize n).reverse.take i).filter (grB W n) = A at st gF3 fl next
      walk_at "rd"
      refine ⟨⟨_, .of gF3⟩, Rd.lcS walk_list (fun _ s => .of (s _ _ gF3)) (fun D j acc _ => acc = ((A.take j).map fun k => decide (m &&& k = m)).map V.bl) (fun _ _ _ _ _ => rfl) ?_ ?_⟩
      · rintro D j x G4 _ acc nD hj hD sm rfl ⟨rfl, hx⟩
        obtain ⟨q, hq, rfl⟩ := natV_get hx
        rw [natV_len] at hj
        walk_at "rd"
        refine ⟨rfl, ?_⟩
        walk_at "rd"
        rw [Rb.andN]
        refine Rd.lcPush hD nD sm (by rw [List.length_map, List.length_map, List.length_take, sizeLine_eq]; omega) fun G5 _ _ => ?_
        rw [Rd.take_snoc hq, List.map_append, List.map_append]
        show _ ++ [V.bl _] = _ ++ [V.bl _]
        rw [show decide (((m &&& q : Nat) : Int) = ((m : Nat) : Int)) = decide (m &&& q = m) by rw [Bool.eq_iff_iff, decide_eq_true_iff, decide_eq_true_iff]; omega]
      · rintro D acc G4 nD hD sm rfl
        rw [natV_len, List.take_length] at hD
        walk_at "rd"
        refine Rd.any (.of hD) ?_
        rw [List.any_map, show (id ∘ fun k => decide (m &&& k = m)) = fun k => decide (m &&& k = m) from rfl]
        have s34 := s3.trans sm
        have keep : grB W n m = false → ∀ H5, Same G4 H5 → ∃ (o3 : Option V), [some (V.int (n : Nat)), some (.ref f), some (.ref F), some (.int (m : Nat)), none] = [some (.int (n : Nat)), some (.ref f), some (.ref F), o3, none] ∧ Same H H5 ∧ H5 F = some (.lst (natV (((bySize n).reverse.take (i + 1)).filter (grB W n)))) ∧ H5 p = some (.lst (natV (bySize n).reverse)) := fun c H5 s5 =>
          ⟨_, rfl, s34.trans s5, by rw [next, if_neg (by rw [c]; exact Bool.false_ne_true), List.append_nil]; exact (sm.trans s5) _ _ gF3, (sm.trans s5) _ _ gp3⟩
        cases ca : A.any fun k => decide (m &&& k = m) with
        | true =>
          walk_at "rd"
          refine keep ?_ G4 (Same.refl _)
          cases c : grB W n m with
          | false => rfl
          | true => exact absurd (st.mpr c).1 (by rw [ca]; exact fun e => nomatch e)
        | false =>
          walk_at "rd"
          refine ⟨f, spf, rfl, hC, ?_⟩
          walk_at "rd"
          refine hf m G4 _ m2 s34 fun G5 s5 => ?_
          cases cw : W m with
          | true =>
            walk_at "rd"
            refine keep ?_ G5 s5
            cases c : grB W n m with
            | false => rfl
            | true => exact absurd (st.mpr c).2 (by rw [cw]; exact fun e => nomatch e)
          | false =>
            have c : grB W n m = true := st.mp ⟨ca, cw⟩
            walk_at "rd"
            have gF5 := (sm.trans s5) _ _ gF3
            refine Rd.tyL (.of gF5) ?_
            walk_at "rd"
            refine Rd.app gF5 (by rw [natV_len, sizeLine_eq]; omega) fun G6 g6 off6 => ?_
            refine ⟨_, rfl, fun b o e => ?_, by rw [next, if_pos c, ← natV_snoc]; exact g6, by rw [off6 p pF]; exact (sm.trans s5) _ _ gp3⟩
            rw [off6 b (ne_of_none e nF)]
            exact s5 _ _ (s34 _ _ e)
    · rintro _ H3 ⟨o3, rfl, s3, gF3, gp3⟩
      rw [natV_len, List.take_length] at gF3
      walk_at "rd"
      exact k F H3 s3 nF gF3

end
end W

namespace W
open PySem PySem.Spec PyProof.Rows L2
section
variable {P : Program} {w : World} {K : PySem.W.Frag} {mg : Str → Option Value} {base : Heap}
/-- what rule answers -/
def Rule (H H' : Hp) (ws : List Str) (z : Str) (r : V) : Prop := (r = .non ∧ ¬ Mw.Told ws z) ∨ ∃ (q : Addr) (P : List Nat), r = .ref q ∧ StepsAt H' q (stepsOf z P) ∧ H q = none ∧ Mz.Gr (Mw.Adj ws z) z.length 0 P
def sp_rule_by (K : PySem.W.Frag) : Sp := fun vs H Q _ => ∃ (a : Addr) (ws : List Str) (z : Str), vs = [.ref a, .str z] ∧ Ru.SqR K H a (ws.map V.str) ∧ (∀ W ∈ ws, 1 ≤ W.length ∧ W.length ≤ 1000) ∧ ws.length ≤ 100 ∧ z.length ≤ 900 ∧ ∀ (r : V) H', Same H H' → Rule H H' ws z r → Q r H'
def sp_rule (K : PySem.W.Frag) (C : Addr) : Sp := fun vs H Q _ => ∃ (a : Addr) (ws : List Str) (z : Str), vs = [.ref a, .str z] ∧ BookAt C H a ws ∧ Watches ws ∧ Lt.Wd 40 z ∧ ∀ (r : V) H', Same H H' → Rule H H' ws z r → Q r H'
theorem gr_len {A : Nat → Nat → Prop} {n : Nat} (hA : ∀ i j, A i j → j ≤ n) {x : Nat} {P : List Nat} (hx : x ≤ n) (h : Mz.Gr A n x P) : P ≠ [] ∧ P.length ≤ n + 1 ∧ ∀ d, Mz.Dist A x n d → P.length = d + 1 := by
  induction h with
  | stop => exact ⟨by simp, by simp, fun d hd => by rw [hd.inj Mz.Dist.zero]; rfl⟩
  | step hx' r hw _ _ ih =>
    obtain ⟨h1, h2, h3⟩ := ih (hA _ _ r)
    have e := h3 _ hw
    refine ⟨by simp, ?_, fun d hd => by rw [hd.inj hx', List.length_cons, e]⟩
    have := hx'.le hA hx
    rw [List.length_cons, e]
    omega
theorem ok_rule_by (T : Txt K mg) : FnOk P w K mg base CX0 3 T.f_rule_by T.fd_rule_by ["watches", "word"] (sp_rule_by K) := by
  refine T.F_rule_by.ok sc_rule_by (fun vs H Q E h => ?_) (fun cdv A outer s H vs Q E hr h => ?_)
  · obtain ⟨a, ws, z, rfl, _⟩ := h
    rfl
  · obtain ⟨a, ws, z, rfl, hS, hw, l1, l2, k⟩ := h
    refine ⟨_, (pss_cons (ps_set (i := 2) sc_rule_by.nd rfl (.inl rfl) (pe_call (ok_shortest T) (hr.mono (by decide)) rfl T.g_shortest T.F_shortest.kp T.b_shortest .nil pass0 (pa_cons (pv 0) (pa_cons (pv 1) pa_nil))))
  (pss_one (ps_ret (pe_ifExp (pt_cmpR op_isN (pv 2) pe_non (nomark _)) pe_non (pe_call (ok_steps_between T) (hr.mono (by decide)) rfl T.g_steps_between T.F_steps_between.kp T.b_steps_between .nil pass0 (pa_cons (pv 1) (pa_cons (pv 2) pa_nil))))))), ?_⟩
    walk_at "go"
    refine ⟨a, ws, z, rfl, hS, hw, l1, by omega, fun r H1 s1 zg => ?_⟩
    walk_at "go"
    rcases zg with ⟨rfl, nt⟩ | ⟨q, P, rfl, hq, nq, g⟩
    · walk_at "go"
      exact k _ _ s1 (.inl ⟨rfl, nt⟩)
    · walk_at "go"
      have ⟨n0, pl, _⟩ := gr_len (fun i j h => h.le.2) (Nat.zero_le _) g
      refine ⟨q, z, P, rfl, hq, n0, by omega, by omega, fun p H2 hp s2 np => ?_⟩
      exact k _ _ (s1.trans s2) (.inr ⟨p, P, rfl, hp, s1.free np, g⟩)
end
end W

namespace W
open PySem PySem.Spec PyProof.Rows L2
section
variable {P : Program} {w : World} {K : PySem.W.Frag} {mg : Str → Option Value} {base : Heap}
/-! ### a book tells a book -/
theorem Watches.small {ws : List Str} (h : Watches ws) : ∀ W ∈ ws, 1 ≤ W.length ∧ W.length ≤ 1000 := fun W m => ⟨(h.ok W m).l0, by have := (h.ok W m).l1; omega⟩
end
end W

namespace W
open PySem PySem.Spec PyProof.Rows L2
section
variable {P : Program} {w : World} {K : PySem.W.Frag} {mg : Str → Option Value} {base : Heap}
/-! ### rules for a book -/
open Classical in
noncomputable def toldOf (ws us : List Str) : List Str := us.filter fun W => decide (Mw.Told ws W)
def ent (e : Str × Addr × List Nat) : Key × V := (.inr e.1, .ref e.2.1)
def RulesOk (H : Hp) (ws us : List Str) (es : List (Str × Addr × List Nat)) : Prop := es.map (·.1) = toldOf ws us ∧ ∀ e ∈ es, StepsAt H e.2.1 (stepsOf e.1 e.2.2) ∧ Mz.Gr (Mw.Adj ws e.1) e.1.length 0 e.2.2
theorem RulesOk.same {H H' : Hp} {ws us : List Str} {es : List (Str × Addr × List Nat)} (h : RulesOk H ws us es) (s : Same H H') : RulesOk H' ws us es := ⟨h.1, fun e m => ⟨(h.2 e m).1.same s, (h.2 e m).2⟩⟩
open Classical in
theorem toldOf_mem {ws us : List Str} {W : Str} : W ∈ toldOf ws us ↔ W ∈ us ∧ Mw.Told ws W := by
  unfold toldOf
  rw [List.mem_filter, decide_eq_true_iff]
open Classical in
theorem toldOf_step {ws us : List Str} {i : Nat} {W : Str} (h : us[i]? = some W) : toldOf ws (us.take (i + 1)) = toldOf ws (us.take i) ++ if Mw.Told ws W then [W] else [] := by
  unfold toldOf
  rw [filt_step h]
  by_cases q : Mw.Told ws W
  · rw [if_pos q, if_pos (decide_eq_true q)]
  · rw [if_neg q, if_neg (fun e => q (of_decide_eq_true e))]
theorem putK_new {kvs : List (Key × V)} {k : Key} {v : V} (h : k ∉ kvs.map (·.1)) : putK kvs k v = kvs ++ [(k, v)] := by
  unfold putK
  rw [if_neg]
  intro e
  obtain ⟨p, hp, q⟩ := List.any_eq_true.mp e
  exact h (List.mem_map.mpr ⟨p, hp, of_decide_eq_true q⟩)
end
end W

namespace W
open PySem PySem.Spec PyProof.Rows L2
section
variable {P : Program} {w : World} {K : PySem.W.Frag} {mg : Str → Option Value} {base : Heap}
/-! ### needless watches -/
/-- the other watches -/
def others (ws : List Str) (W : Str) : List Str := ws.filter fun V => !decide (V = W)
open Classical in
/-- the watches that the others tell, in their order -/
noncomputable def dues (ws : List Str) (zs : List Str) : List Str := zs.filter fun W => decide (Mw.Told (others ws W) W)
open Classical in
theorem dues_step {ws zs : List Str} {i : Nat} {W : Str} {b : Bool} (h : zs[i]? = some W) (e : b = true ↔ Mw.Told (others ws W) W) : dues ws (zs.take (i + 1)) = dues ws (zs.take i) ++ if b = true then [W] else [] := by
  unfold dues
  rw [filt_stepB h]
  cases b with
  | true => rw [if_pos rfl, if_pos (decide_eq_true (e.mp rfl))]
  | false => rw [if_neg Bool.false_ne_true, if_neg (fun q => Bool.false_ne_true (e.mpr (of_decide_eq_true q)))]
theorem dues_sub (ws zs : List Str) : ∀ W ∈ dues ws zs, W ∈ zs := fun W h => (List.mem_filter.mp h).1
theorem dues_le (ws zs : List Str) : (dues ws zs).length ≤ zs.length := List.length_filter_le _ _
open Classical in
theorem mem_dues {ws zs : List Str} {W : Str} (h : W ∈ zs) : W ∈ dues ws zs ↔ Mw.Told (others ws W) W := by
  unfold dues
  rw [List.mem_filter, decide_eq_true_iff]
  exact ⟨fun q => q.2, fun q => ⟨h, q⟩⟩
end
end W

namespace W
open PySem PySem.Spec PyProof.Rows L2
section
variable {P : Program} {w : World} {K : PySem.W.Frag} {mg : Str → Option Value} {base : Heap}
/-! ### all the words that a book tells -/
def wordsOf (L : Str) : Nat → List Str
  | 0 => [""]
  | k + 1 => (wordsOf L k).flatMap fun w => (Re.Signs L).map fun c => w ++ c
def allOf (L : Str) : Nat → List Str
  | 0 => []
  | k + 1 => allOf L k ++ wordsOf L (k + 1)
open Classical in
noncomputable def toldIn (ws zs : List Str) : List Str := zs.filter fun z => decide (Mw.Told ws z)
theorem signs_len (L : Str) : (Re.Signs L).length = L.length := by
  unfold Re.Signs
  rw [List.length_map, Array.length_toList]
  rfl
theorem signs_one {L : Str} : ∀ c ∈ Re.Signs L, c.length = 1 := fun c m => by
  obtain ⟨d, _, rfl⟩ := List.mem_map.mp m
  rfl
theorem signs_nodup {L : Str} (nd : L.cps.toList.Nodup) : (Re.Signs L).Nodup := by
  unfold Re.Signs
  refine List.Pairwise.map _ (fun a b h e => h ?_) nd
  have : (#[a] : Array Nat) = #[b] := congrArg Str.cps e
  simpa using this
theorem wordsOf_len {L : Str} : ∀ {k : Nat}, ∀ z ∈ wordsOf L k, z.length = k
  | 0, z, m => by
    rw [List.mem_singleton.mp m]
    rfl
  | k + 1, z, m => by
    obtain ⟨w, hw, m⟩ := List.mem_flatMap.mp m
    obtain ⟨c, hc, rfl⟩ := List.mem_map.mp m
    rw [Lt.len_app, wordsOf_len w hw, signs_one c hc]
theorem flat_le {L : Str} (h : L.length ≤ 3) : ∀ ws : List Str, (ws.flatMap fun w => (Re.Signs L).map fun c => w ++ c).length ≤ ws.length * 3
  | [] => Nat.le_refl _
  | w :: ws => by
    have := flat_le h ws
    rw [List.flatMap_cons, List.length_append, List.length_map, signs_len, List.length_cons]
    omega
theorem told_step {ws zs : List Str} {i : Nat} {W : Str} (h : zs[i]? = some W) : toldIn ws (zs.take (i + 1)) = toldIn ws (zs.take i) ++ toldIn ws [W] := by
  unfold toldIn
  rw [Rd.take_snoc h, List.filter_append]
theorem told_yes {ws : List Str} {W : Str} (h : Mw.Told ws W) : toldIn ws [W] = [W] := by
  simp [toldIn, h]
theorem told_no {ws : List Str} {W : Str} (h : ¬ Mw.Told ws W) : toldIn ws [W] = [] := by
  simp [toldIn, h]
theorem told_few (ws zs : List Str) : (toldIn ws zs).length ≤ zs.length := List.length_filter_le ..
theorem wordsOf_count {L : Str} (h : L.length ≤ 3) : ∀ k : Nat, (wordsOf L k).length ≤ 3 ^ k
  | 0 => Nat.le_refl _
  | k + 1 => by
    have ih := wordsOf_count h k
    have e : ∀ ws : List Str, (ws.flatMap fun w => (Re.Signs L).map fun c => w ++ c).length ≤ ws.length * 3 := by
      intro ws
      induction ws with
      | nil => exact Nat.le_refl _
      | cons w ws ih =>
        rw [List.flatMap_cons, List.length_append, List.length_map, signs_len, List.length_cons]
        omega
    have := e (wordsOf L k)
    show ((wordsOf L k).flatMap _).length ≤ 3 ^ k * 3
    omega
theorem allOf_count {L : Str} (h : L.length ≤ 3) : ∀ k : Nat, k ≤ 6 → (allOf L k).length ≤ k * 729
  | 0, _ => Nat.le_refl _
  | k + 1, hk => by
    have ih := allOf_count h k (by omega)
    have h1 := wordsOf_count h (k + 1)
    have h2 : 3 ^ (k + 1) ≤ 3 ^ 6 := Nat.pow_le_pow_right (by decide) hk
    show (allOf L k ++ wordsOf L (k + 1)).length ≤ _
    rw [List.length_append]
    omega
theorem allOf_len {L : Str} : ∀ {k : Nat}, ∀ z ∈ allOf L k, z.length ≤ k
  | 0, z, m => by cases m
  | k + 1, z, m => by
    rcases List.mem_append.mp m with m | m
    · have := allOf_len z m
      omega
    · exact Nat.le_of_eq (wordsOf_len z m)
end
end W

namespace W
open PySem PySem.Spec PyProof.Rows L2
section
variable {P : Program} {w : World} {K : PySem.W.Frag} {mg : Str → Option Value} {base : Heap}
/-! ### least sub-lots that tell words -/
open Mb (chs bySize leB leastL lots)
noncomputable def tellB (zs ws : List Str) : Bool := @decide (∀ z ∈ zs, Mw.Told ws z) (Classical.propDecidable _)
theorem tellB_iff {zs ws : List Str} : tellB zs ws = true ↔ ∀ z ∈ zs, Mw.Told ws z := by
  unfold tellB
  exact @decide_eq_true_iff _ (Classical.propDecidable _)
theorem tell_more {ws us : List Str} (h : ∀ W ∈ ws, W ∈ us) {z : Str} (t : Mw.Told ws z) : Mw.Told us z := Mw.Star.mono (fun _ _ ⟨W, m, e⟩ => ⟨W, h W m, e⟩) t
theorem tellB_mono (zs : List Str) : Mb.Mono (tellB zs) := fun a b h t => tellB_iff.mpr fun z mz => tell_more h (tellB_iff.mp t z mz)
noncomputable def leastOf (ws zs : List Str) : List (List Str) := inLots ((lots (inOrder ws)).filter (leastL (tellB zs)))
theorem inOrder_perm1 (zs : List Str) : (inOrder zs).Perm zs := List.mergeSort_perm zs _
theorem least_masks_lots {ws zs : List Str} (nd : ws.Nodup) : inLots (((bySize (inOrder ws).length).filter (leB (fun k => tellB zs (chs (inOrder ws) k)) (inOrder ws).length)).map (chs (inOrder ws))) = leastOf ws zs :=
  inLots_perm (Mb.filter_map_perm _ _ fun m hm => by
    rw [Bool.eq_iff_iff]
    exact Mb.leastL_iff (tellB_mono zs) ((inOrder_perm1 ws).nodup_iff.mpr nd) hm)
theorem tabs_same {tt : List (Addr × Str)} {H H' : Hp} (s : Same H H') (h : LamX.Tabs tt H) : LamX.Tabs tt H' := h.ext s
def sp_ordered_watches (K : PySem.W.Frag) (C : Addr) : Sp := fun vs H Q _ => ∃ (b : Addr) (ws : List Str), vs = [.ref b] ∧ BookAt C H b ws ∧ Watches ws ∧ ∀ (l : Addr) H', Same H H' → H' l = some (.lst ((inOrder ws).map V.str)) → Q (.ref l) H'
theorem ok_ordered_watches (T : Txt K mg) : FnOk P w K mg base CX0 4 T.f_ordered_watches T.fd_ordered_watches ["book"] (sp_ordered_watches K T.C_Book) := by
  refine T.F_ordered_watches.ok sc_ordered_watches (fun vs H Q E h => ?_) (fun cdv A outer s H vs Q E hr h => ?_)
  · obtain ⟨b, ws, rfl, _⟩ := h
    rfl
  · obtain ⟨b, ws, rfl, ⟨dx, t, hb, ht⟩, L, k⟩ := h
    refine ⟨_, (pss_one (ps_ret (pe_call (ok_in_order T) (hr.mono (by decide)) rfl T.g_in_order T.F_in_order.kp T.b_in_order .nil pass0 (pa_cons (pe_callTy (T := "list") (r := Rd.nListOf K) Rd.c_listOf (by rfl) T.n_list (by decide +kernel) (pa_cons (pe_fld (pv 0) rfl) pa_nil)) pa_nil)))), ?_⟩
    walk_at "rd"
    refine Rd.fld hb T.cl_Book T.na_Book_watches rfl ?_
    walk_at "rd"
    refine Rd.listOf (.inr (.of ht)) (Rd.new fun l G nl gl s => ?_)
    walk_at "rd"
    exact ⟨l, ws, rfl, .of gl, fun z m => by have := (L.ok z m).l1; omega, fun q H' s2 _ g => k q H' (s.trans s2) g⟩
end
end W

namespace W
open PySem PySem.Spec PyProof.Rows L2
section
variable {P : Program} {w : World} {K : PySem.W.Frag} {mg : Str → Option Value} {base : Heap}
/-! ### sub-lots: anything judged -/
open Mb (chs lots leastL unableL bySize grB)
def strsD : List PyData → Option (List Str)
  | [] => some []
  | .str z :: ds => (strsD ds).map (z :: ·)
  | _ :: _ => none
theorem strsD_map : ∀ zs : List Str, strsD (zs.map PyData.str) = some zs
  | [] => rfl
  | z :: zs => by show (strsD (zs.map PyData.str)).map (z :: ·) = _; rw [strsD_map zs]; rfl
theorem strsD_some : ∀ {ds : List PyData} {zs : List Str}, strsD ds = some zs → ds = zs.map PyData.str
  | [], _, e => by cases e; rfl
  | .str z :: ds, zs, e => by
    have e : (strsD ds).map (z :: ·) = some zs := e
    cases q : strsD ds with
    | none => rw [q] at e; cases e
    | some ys =>
      rw [q] at e
      cases e
      rw [strsD_some q]
      rfl
  | .none :: _, _, e => by cases e
  | .bool _ :: _, _, e => by cases e
  | .int _ :: _, _, e => by cases e
  | .list _ :: _, _, e => by cases e
  | .tuple _ :: _, _, e => by cases e
  | .dict _ :: _, _, e => by cases e
/-- the sub-lot of xs that d is, if it is one -/
def lotOf (xs : List Str) : PyData → Option (List Str)
  | .tuple ds => match strsD ds with
    | some ys => if (xs.filter fun x => decide (x ∈ ys)) = ys then some ys else none
    | none => none
  | _ => none
theorem lotOf_some {xs ys : List Str} {d : PyData} (e : lotOf xs d = some ys) : d = .tuple (ys.map PyData.str) ∧ ys.Sublist xs := by
  cases d with
  | tuple ds =>
    have e : (match strsD ds with | some ys => if (xs.filter fun x => decide (x ∈ ys)) = ys then some ys else none | none => none) = some ys := e
    cases q : strsD ds with
    | none => rw [q] at e; cases e
    | some us =>
      rw [q] at e
      have e : (if (xs.filter fun x => decide (x ∈ us)) = us then some us else none) = some ys := e
      by_cases c : (xs.filter fun x => decide (x ∈ us)) = us
      · rw [if_pos c] at e
        cases e
        exact ⟨by rw [strsD_some q], c ▸ List.filter_sublist⟩
      · rw [if_neg c] at e
        cases e
  | _ => cases e
theorem lotOf_tup {xs ys : List Str} : lotOf xs (.tuple (ys.map PyData.str)) = if (xs.filter fun x => decide (x ∈ ys)) = ys then some ys else none := by
  show (match strsD (ys.map PyData.str) with | some ys => if (xs.filter fun x => decide (x ∈ ys)) = ys then some ys else none | none => none) = _
  rw [strsD_map]
theorem dd_strs {H : Hp} {t : Addr} : ∀ {vs : List V} {zs : List Str}, Ri.DdAll H t vs (zs.map PyData.str) → vs = zs.map V.str
  | [], [], _ => rfl
  | [], _ :: _, h => by cases h
  | _ :: _, [], h => by cases h
  | v :: vs, z :: zs, .cons h1 h2 => by
    cases h1
    rw [dd_strs h2]
    rfl
theorem dd_tup {H : Hp} {t : Addr} {x : V} {ys : List Str} (h : Ri.Dd H t x (.tuple (ys.map PyData.str))) : ∃ p, x = .ref p ∧ p ≠ t ∧ H p = some (.tup (ys.map V.str)) := by
  cases h with
  | tup n h q => exact ⟨_, rfl, n, by rw [h, dd_strs q]⟩
/-- an item that is one of xs -/
def itD (xs : List Str) : PyData → Bool
  | .str z => decide (z ∈ xs)
  | _ => false
theorem it_not {xs : List Str} {d : PyData} (q : Ri.isStrD d = false) : itD xs d = false := by cases d <;> first | rfl | cases q
theorem dd_str {H : Hp} {t : Addr} {x : V} {d : PyData} (h : Ri.Dd H t x d) (q : Ri.isStrD d = true) : ∃ z, x = .str z ∧ d = .str z := by
  cases h with
  | str z => exact ⟨z, rfl, rfl⟩
  | _ => cases q
theorem all_it {xs : List Str} : ∀ {ds : List PyData}, ds.all (itD xs) = true → ∃ ys : List Str, ds = ys.map PyData.str ∧ ∀ y ∈ ys, y ∈ xs
  | [], _ => ⟨[], rfl, fun _ m => absurd m List.not_mem_nil⟩
  | d :: ds, h => by
    rw [List.all_cons, Bool.and_eq_true] at h
    obtain ⟨ys, e, m⟩ := all_it h.2
    cases d with
    | str z =>
      refine ⟨z :: ys, by rw [e]; rfl, fun y q => ?_⟩
      rcases List.mem_cons.mp q with rfl | q
      · exact of_decide_eq_true h.1
      · exact m y q
    | _ => exact absurd h.1 (by simp [itD])
theorem not_it {xs : List Str} {ds : List PyData} (h : ds.all (itD xs) = false) : lotOf xs (.tuple ds) = none := by
  cases e : lotOf xs (.tuple ds) with
  | none => rfl
  | some ys =>
    obtain ⟨q, s⟩ := lotOf_some e
    cases q
    have : (ys.map PyData.str).all (itD xs) = true := List.all_eq_true.mpr fun d m => by
      obtain ⟨y, my, rfl⟩ := List.mem_map.mp m
      exact decide_eq_true (s.subset my)
    rw [this] at h
    cases h
/-- few items -/
def Few (d : PyData) : Prop := ∀ ds, d = .tuple ds → ds.length ≤ 100
noncomputable def leastD (ws zs : List Str) (d : PyData) : Bool := match lotOf (inOrder ws) d with | some ys => leastL (tellB zs) ys | none => false
noncomputable def unableD (ws zs : List Str) (d : PyData) : Bool := match lotOf (inOrder ws) d with | some ys => unableL (tellB zs) (inOrder ws) ys | none => false
def sp_is_sublot (K : PySem.W.Frag) : Sp := fun vs H Q _ => ∃ (a : Addr) (x : V) (t : Addr) (d : PyData) (xs : List Str), vs = [.ref a, x] ∧ SqL K H a (xs.map V.str) ∧ Ri.Dd H t x d ∧ Few d ∧ xs.length ≤ 1000 ∧ (∀ z ∈ xs, Lt.Wd 12 z) ∧ ∀ H', Same H H' → Q (.bl (lotOf xs d).isSome) H'
theorem eqv_strsK : ∀ (xs ys : List Str), PyData.eqvAll (xs.map PyData.str) (ys.map PyData.str) = decide (xs = ys)
  | [], [] => rfl
  | [], _ :: _ => rfl
  | _ :: _, [] => rfl
  | x :: xs, y :: ys => by
    show (PyData.eqv (.str x) (.str y) && PyData.eqvAll (xs.map PyData.str) (ys.map PyData.str)) = _
    rw [eqv_strsK xs ys, Bool.eq_iff_iff]
    show ((x == y) && decide (xs = ys)) = true ↔ _
    simp
theorem eqStrsK {K : PySem.W.Frag} {H : Hp} {a b : Addr} {ns ms : List Str} {Q : VK} (h1 : SqL K H a (ns.map V.str)) (h2 : SqL K H b (ms.map V.str)) (h : ∀ z ∈ ns, PyData.strOk z = true) (h' : ∀ z ∈ ms, PyData.strOk z = true) (q : Q (.bl (decide (ns = ms))) H) : rEqD K (.ref a) (.ref b) H Q := by
  refine ⟨_, _, .lst h1 (Rd.dpAll_strs ns), .lst h2 (Rd.dpAll_strs ms), Rd.shaped_strs h, Rd.shaped_strs h', ?_⟩
  show Q (.bl (PyData.eqvAll (ns.map PyData.str) (ms.map PyData.str))) H
  rw [eqv_strsK]
  exact q
theorem ok_is_sublot (T : Txt K mg) : FnOk P w K mg base CX0 1 T.f_is_sublot T.fd_is_sublot ["things", "thing"] (sp_is_sublot K) := by
  refine T.F_is_sublot.ok sc_is_sublot (fun vs H Q E h => ?_) (fun cdv A outer s H vs Q E hr h => ?_)
  · obtain ⟨a, x, t, d, xs, rfl, _⟩ := h
    rfl
  · obtain ⟨a, x, t, d, xs, rfl, ha, hd, few, xl, xz, k⟩ := h
    refine ⟨_, (pss_cons (ps_if (PW.pt (pw_or (pt_not (pt_val (pe_callB (id := "isinstance") (r := rIsi K) call_isi (by rfl) T.n_isinstance (by decide +kernel) (pa_cons (pv 1) (pa_cons (pe_bltn (v := .ty "tuple") (u := .type "tuple") (by rfl) T.n_tuple (by decide +kernel) rfl) pa_nil))))) (pw_or1 (pt_not (pt_val (pe_callB (id := "all") (r := rAll K) (cr_all rfl) (by rfl) T.n_all (by decide +kernel) (pa_cons (pe_lc (own := [("watch", 2)]) (g := gName 2) (tt := tYes) rfl sc_is_sublot.nd (pi_tup (pv 1)) (blkOk_by (own := [("watch", 2)]) (N := ["things", "thing", "watch"]) (sc := defScope s_is_sublot) (by decide +kernel)) (fun _ _ _ _ _ => (pg_name (i := 2) sc_is_sublot.nd rfl (.inl rfl))) (fun _ _ _ _ _ => pts_nil) (fun _ _ _ _ _ => (pe_and (pe_callB (id := "isinstance") (r := rIsi K) call_isi (by rfl) T.n_isinstance (by decide +kernel) (pa_cons (pv 2) (pa_cons (pe_bltn (v := .ty "str") (u := .type "str") (by rfl) T.n_str (by decide +kernel) rfl) pa_nil))) (pe_one (pe_cmpR (r := rIn K false) op_in_seq (pv 2) (pv 0) (by rfl)))))) pa_nil)))))))
  (pss_one (ps_ret pe_bl))
  pss_nil)
  (pss_one (ps_ret (pe_cmpR (r := rEqD K) (op_eqD hr.units) (pe_callTy (T := "list") (r := Rd.nListOf K) Rd.c_listOf (by rfl) T.n_list (by decide +kernel) (pa_cons (pv 1) pa_nil)) (pe_lc (own := [("watch", 2)]) (g := gName 2)  rfl sc_is_sublot.nd (pi_list (pv 0)) (blkOk_by (own := [("watch", 2)]) (N := ["things", "thing", "watch"]) (sc := defScope s_is_sublot) (by decide +kernel)) (fun _ _ _ _ _ => (pg_name (i := 2) sc_is_sublot.nd rfl (.inl rfl))) (fun _ _ _ _ _ => pts_one (pt_cmpR (r := rIn K false) op_in_seq (pv 2) (pv 1) (by rfl))) (fun _ _ _ _ _ => (pv 2))) (nomark _))))), ?_⟩
    walk_at "rd"
    refine Ri.askTup hd ?_
    by_cases c : Ri.isTupD d = true
    · rw [c]
      cases hd with
      | tup nt hb all =>
        rename_i b ys ds
        have len := all.len
        have dl := few _ rfl
        walk_at "rd"
        refine ⟨⟨_, .of hb⟩, Rd.lcS walk_tup (fun _ s => .of (s _ _ hb)) (fun D i acc _ => acc = ((ds.take i).map (itD xs)).map V.bl) (fun _ _ _ _ _ => rfl) ?_ ?_⟩
        · rintro D i x G _ acc nD hi hD sm rfl ⟨rfl, hx⟩
          obtain ⟨d, hd, dx⟩ := all.get hx
          have dx := dx.same sm
          walk_at "rd"
          refine ⟨rfl, ?_⟩
          walk_at "rd"
          refine Ri.askStr dx ?_
          cases q : Ri.isStrD d with
          | true =>
            obtain ⟨z, rfl, rfl⟩ := dd_str dx q
            walk_at "rd"
            refine Rd.inStrsY (ws := xs) (.inl (sm.seq ha)) ?_
            refine Rd.lcPush hD nD sm (by rw [List.length_map, List.length_map, List.length_take, sizeLine_eq]; omega) fun G3 _ _ => ?_
            rw [Rd.take_snoc hd, List.map_append, List.map_append]
            rfl
          | false =>
            walk_at "rd"
            refine Rd.lcPush hD nD sm (by rw [List.length_map, List.length_map, List.length_take, sizeLine_eq]; omega) fun G3 _ _ => ?_
            rw [Rd.take_snoc hd, List.map_append, List.map_append]
            show _ = _ ++ [V.bl (itD xs d)]
            rw [it_not q]
        · rintro D acc G nD hD sm rfl
          rw [len, List.take_length] at hD
          walk_at "rd"
          refine Rd.all (.of hD) ?_
          have ea : ((ds.map (itD xs)).all id) = ds.all (itD xs) := by rw [List.all_map]; rfl
          rw [ea]
          cases q : ds.all (itD xs) with
          | false =>
            walk_at "rd"
            have := k G sm
            rw [not_it q] at this
            exact this
          | true =>
            obtain ⟨us, rfl, um⟩ := all_it q
            have e := dd_strs all
            subst e
            rw [List.length_map] at dl len
            walk_at "rd"
            refine Rd.listOf (.inr (.of (sm _ _ hb))) (Rd.new fun l G2 nl gl s2 => ?_)
            have sm2 := sm.trans s2
            walk_at "rd"
            refine ⟨⟨_, sm2.seq ha⟩, Rd.lcS walk_list (fun _ s => s.seq (sm2.seq ha)) (fun D i acc _ => acc = ((xs.take i).filter fun x => decide (x ∈ us)).map V.str) (fun _ _ _ _ _ => rfl) ?_ ?_⟩
            · rintro D i x G3 _ acc nD hi hD sm3 rfl ⟨rfl, hx⟩
              obtain ⟨z, hz, rfl⟩ := Rd.map_strG hx
              rw [List.length_map] at hi
              walk_at "rd"
              refine ⟨rfl, ?_⟩
              walk_at "rd"
              refine Rd.inStrsY (ws := us) (.inr (.of (sm3 _ _ (sm2 _ _ hb)))) ?_
              have fl : ((xs.take i).filter fun x => decide (x ∈ us)).length ≤ xs.length := Nat.le_trans (List.length_filter_le _ _) (by rw [List.length_take]; omega)
              by_cases c : z ∈ us
              · rw [decide_eq_true c]
                walk_at "rd"
                refine Rd.lcPush hD nD sm3 (by rw [List.length_map, sizeLine_eq]; omega) fun G4 _ _ => ?_
                rw [Rd.take_snoc hz, List.filter_append, List.filter_cons_of_pos (by simpa using c), List.map_append]
                rfl
              · rw [decide_eq_false c]
                walk_at "rd"
                refine ⟨_, hD, sm3, ?_⟩
                show _ = ((xs.take (i + 1)).filter fun x => decide (x ∈ us)).map V.str
                rw [Rd.take_snoc hz, List.filter_append, List.filter_cons_of_neg (by simpa using c), List.filter_nil, List.append_nil]
            · rintro D acc G3 nD hD sm3 rfl
              rw [List.length_map, List.take_length] at hD
              refine eqStrsK (.of (sm3 _ _ gl)) (.of hD) (fun z m => (xz z (um z m)).ok.ok) (fun z m => (xz z (List.mem_filter.mp m).1).ok.ok) ?_
              have := k G3 (sm2.trans sm3)
              rw [lotOf_tup] at this
              by_cases c : (xs.filter fun x => decide (x ∈ us)) = us
              · rw [decide_eq_true c.symm]
                rw [if_pos c] at this
                exact this
              · rw [decide_eq_false fun e => c e.symm]
                rw [if_neg c] at this
                exact this
      | _ => cases c
    · rw [Bool.not_eq_true] at c
      rw [c]
      walk_at "rd"
      have : lotOf xs d = none := by cases d <;> first | rfl | cases c
      have q := k H (Same.refl _)
      rw [this] at q
      exact q
noncomputable def unableOf (ws zs : List Str) : List (List Str) := inLots ((lots (inOrder ws)).filter (unableL (tellB zs) (inOrder ws)))
theorem great_masks_lots {ws zs : List Str} (nd : ws.Nodup) : inLots (((bySize (inOrder ws).length).reverse.filter (grB (fun k => tellB zs (chs (inOrder ws) k)) (inOrder ws).length)).map (chs (inOrder ws))) = unableOf ws zs :=
  inLots_perm ((((List.reverse_perm _).filter _).map _).trans (Mb.filter_map_perm _ _ fun m hm => by
    rw [Bool.eq_iff_iff]
    exact Mb.unableL_iff (tellB_mono zs) ((inOrder_perm1 ws).nodup_iff.mpr nd) hm))
theorem unableOf_mem {ws zs w : List Str} (nd : ws.Nodup) : w ∈ unableOf ws zs ↔ w.Sublist (inOrder ws) ∧ unableL (tellB zs) (inOrder ws) w = true := by
  unfold unableOf
  rw [inLots_mem, List.mem_filter, Mb.mem_lots ((inOrder_perm1 ws).nodup_iff.mpr nd)]
theorem leastOf_mem {ws zs w : List Str} (nd : ws.Nodup) : w ∈ leastOf ws zs ↔ w.Sublist (inOrder ws) ∧ leastL (tellB zs) w = true := by
  unfold leastOf
  rw [inLots_mem, List.mem_filter, Mb.mem_lots ((inOrder_perm1 ws).nodup_iff.mpr nd)]
theorem unableOf_len {ws zs : List Str} (h : ws.length ≤ 12) : (unableOf ws zs).length ≤ 4096 := by
  unfold unableOf
  rw [inLots_len]
  refine Nat.le_trans (List.length_filter_le _ _) ?_
  unfold lots
  rw [List.length_map, List.length_range, (inOrder_perm1 ws).length_eq]
  exact pow12 h
theorem unableOf_nodup {ws zs : List Str} (nd : ws.Nodup) : (unableOf ws zs).Nodup := ((List.mergeSort_perm _ _).nodup_iff).mpr ((Mb.lots_nodup ((inOrder_perm1 ws).nodup_iff.mpr nd)).filter _)
theorem unableOf_ok {ws zs : List Str} (L : Watches ws) : ∀ w ∈ unableOf ws zs, ∀ z ∈ w, PyData.strOk z = true := fun w m z mz => (L.ok z ((inOrder_perm1 ws).mem_iff.mp (((unableOf_mem L.nd).mp m).1.subset mz))).ok.ok

end
end W

namespace W
open PySem PySem.Spec PyProof.Rows L2
section
variable {P : Program} {w : World} {K : PySem.W.Frag} {mg : Str → Option Value} {base : Heap}
/-! ### odd things -/
def oddD : List PyData := [.none, .bool true, .bool false, .int 0, .int 7, .int (-1), .int (10 ^ (20 : Int).toNat), .str "", .str "A", .str "a b", .str (Txt.mul "abcdefgh" 5 ++ ("abc" : Str)), .list [], .dict [], .tuple [],
  .list [.str "a"], .tuple [.str "a", .str "b"], .dict [(.str "a", .int 1)], .list [.list [.str "a"], .dict [(.str "b", .none)]], .str "a1", .tuple [.str "a"]]
theorem odd_sd : ∀ d ∈ oddD, Ri.Sd 3 200 d := by
  have h : (oddD.all fun d => d.showable && (decide (d.depth ≤ 3) && decide (d.shown.length ≤ 200))) = true := by decide +kernel
  intro d m
  have := List.all_eq_true.mp h d m
  simp only [Bool.and_eq_true, decide_eq_true_eq] at this
  exact ⟨this.1, this.2.1, this.2.2⟩
def sp_l_odd (K : PySem.W.Frag) : Sp := fun vs H Q _ => ∃ (t c : Addr), vs = [.ref t] ∧ Tape H t c ∧ ∀ (x : V) (d : PyData) H', d ∈ oddD → Ri.Dd H' t x d → Tape H' t c → Rd.But t H H' → Q x H'
theorem ok_l_odd (T : Txt K mg) : FnOk P w K mg base CX0 2 T.f_l_odd T.fd_l_odd ["_law_tape_here"] (sp_l_odd K) := by
  refine T.F_l_odd.ok sc_l_odd (fun vs H Q E h => ?_) (fun cdv A outer s H vs Q E hr h => ?_)
  · obtain ⟨t, c, rfl, _⟩ := h
    rfl
  · obtain ⟨t, c, rfl, tp, k⟩ := h
    refine ⟨_, (pss_cons (ps_set (i := 1) sc_l_odd.nd rfl (.inl rfl) (pe_lst (pa_cons pe_non (pa_cons pe_bl (pa_cons pe_bl (pa_cons pe_int (pa_cons pe_int (pa_cons (pe_un un_neg pe_int) (pa_cons (pe_op op_pow pe_int pe_int) (pa_cons pe_str (pa_cons pe_str (pa_cons pe_str (pa_cons (pe_op Rd.o_addS (pe_op Rx.o_repS pe_str pe_int) pe_str) (pa_cons (pe_lst pa_nil) (pa_cons pe_dnewK (pa_cons (pe_tup pa_nil) pa_nil))))))))))))))))
  (pss_cons (ps_set (i := 1) sc_l_odd.nd rfl (.inl rfl) (pe_op op_cat (pv 1) (pe_lst (pa_cons (pe_lst (pa_cons pe_str pa_nil)) (pa_cons (pe_tup (pa_cons pe_str (pa_cons pe_str pa_nil))) (pa_cons (pe_disp (pps_cons pe_str pe_int pps_nil) rfl rfl (by simp) (by decide)) (pa_cons (pe_lst (pa_cons (pe_lst (pa_cons pe_str pa_nil)) (pa_cons (pe_disp (pps_cons pe_str pe_non pps_nil) rfl rfl (by simp) (by decide)) pa_nil))) (pa_cons pe_str (pa_cons (pe_tup (pa_cons pe_str pa_nil)) pa_nil)))))))))
  (pss_one (ps_ret (pe_ix (r := rIxL K) ix_list (pv 1) (pe_call (ok_l_pick T) (hr.mono (by decide)) rfl T.g_l_pick T.F_l_pick.kp T.b_l_pick .nil pass0 (pa_cons (pv 0) (pa_cons (pe_callB (id := "len") (r := Rd.nLen K) Rd.c_len (by rfl) T.n_len (by decide +kernel) (pa_cons (pv 1) pa_nil)) pa_nil))) (fun _ _ => rfl)))))), ?_⟩
    walk_at "rd"
    refine Rd.iC ⟨by decide, by decide, by decide⟩ ?_
    walk_at "rd"
    refine Rx.repS ⟨by decide +kernel, fun _ _ => by decide +kernel, fun _ _ => by decide +kernel⟩ ?_
    walk_at "rd"
    refine Rd.addS (by rw [show (Txt.mul "abcdefgh" 5).length = 40 by decide +kernel, show ("abc" : Str).length = 3 by decide +kernel, sizeLine_eq]; decide) ?_
    walk_at "rd"
    refine ⟨Nat.le_of_ble_eq_true rfl, Rd.new fun p1 G1 n1 g1 s1 => ?_⟩
    walk_at "rd"
    refine Rd.dnew fun p2 G2 n2 g2 s2 => ?_
    walk_at "rd"
    refine ⟨Nat.le_of_ble_eq_true rfl, Rd.new fun p3 G3 n3 g3 s3 => ?_⟩
    walk_at "rd"
    refine ⟨Nat.le_of_ble_eq_true rfl, Rd.new fun p4 G4 n4 g4 s4 => ?_⟩
    walk_at "rd"
    refine ⟨Nat.le_of_ble_eq_true rfl, Rd.new fun p5 G5 n5 g5 s5 => ?_⟩
    walk_at "rd"
    refine ⟨Nat.le_of_ble_eq_true rfl, Rd.new fun p6 G6 n6 g6 s6 => ?_⟩
    walk_at "rd"
    refine Rx.disp fun p7 G7 n7 g7 s7 => Rx.pair ?_
    walk_at "rd"
    refine Rx.pair0 ⟨g7, [(.inr "a", .int 1)], rfl, by decide, fun G8 g8 off8 => ?_⟩
    have s8 := Rx.same_off2 s7 n7 off8
    walk_at "rd"
    refine ⟨Nat.le_of_ble_eq_true rfl, Rd.new fun p9 G9 n9 g9 s9 => ?_⟩
    walk_at "rd"
    refine Rx.disp fun p10 G10 n10 g10 s10 => Rx.pair ?_
    walk_at "rd"
    refine Rx.pair0 ⟨g10, [(.inr "b", .non)], rfl, by decide, fun G11 g11 off11 => ?_⟩
    have s11 := Rx.same_off2 s10 n10 off11
    walk_at "rd"
    refine ⟨Nat.le_of_ble_eq_true rfl, Rd.new fun p12 G12 n12 g12 s12 => ?_⟩
    walk_at "rd"
    refine ⟨Nat.le_of_ble_eq_true rfl, Rd.new fun p13 G13 n13 g13 s13 => ?_⟩
    walk_at "rd"
    refine ⟨Nat.le_of_ble_eq_true rfl, Rd.new fun p14 G14 n14 g14 s14 => ?_⟩
    walk_at "rd"
    have u1 : Same H G1 := s1
    have u2 := u1.trans s2
    have u3 := u2.trans s3
    have u4 := u3.trans s4
    have u5 := u4.trans s5
    have u6 := u5.trans s6
    have u8 := u6.trans s8
    have u9 := u8.trans s9
    have u11 := u9.trans s11
    have u12 := u11.trans s12
    have u13 := u12.trans s13
    have u14 := u13.trans s14
    obtain ⟨to, ht⟩ : ∃ o, H t = some o := by
      obtain ⟨_, _, _, _, _, _, g, _⟩ := tp
      exact ⟨_, g⟩
    have off : ∀ {p : Addr}, H p = none → p ≠ t := fun n => (ne_of_none ht n).symm
    have o1 := off n1
    have o2 := off (u1.free n2)
    have o3 := off (u2.free n3)
    have o5 := off (u4.free n5)
    have o6 := off (u5.free n6)
    have o7 := off (u6.free n7)
    have o9 := off (u8.free n9)
    have o10 := off (u9.free n10)
    have o12 := off (u11.free n12)
    have o13 := off (u12.free n13)
    have t12 := (s12.trans s13).trans s14
    have t9 := (s9.trans s11).trans t12
    have t6 := s6.trans (s8.trans t9)
    have t4 := s4.trans (s5.trans t6)
    have t2 := s2.trans (s3.trans t4)
    have h4 := (s5.trans t6) _ _ g4
    refine Rd.cat h4 g14 (by rw [sizeLine_eq]; exact Nat.le_of_ble_eq_true rfl) (Rd.new fun q G15 nq gq s15 => ?_)
    have qt := off (u14.free nq)
    have f1 := (t2.trans s15) _ _ g1
    have f2 := ((s3.trans t4).trans s15) _ _ g2
    have f3 := (t4.trans s15) _ _ g3
    have f5 := (t6.trans s15) _ _ g5
    have f6 := ((s8.trans t9).trans s15) _ _ g6
    have f8 := (t9.trans s15) _ _ g8
    have f9 := ((s11.trans t12).trans s15) _ _ g9
    have f11 := (t12.trans s15) _ _ g11
    have f12 := ((s13.trans s14).trans s15) _ _ g12
    have f13 := (s14.trans s15) _ _ g13
    have sH : Same H G15 := u14.trans s15
    have tp15 : Tape G15 t c := tp.same sH
    clear s1 s2 s3 s4 s5 s6 s7 s8 s9 s10 s11 s12 s13 s14 s15 t2 t4 t6 t9 t12 g1 g2 g3 g4 g5 g6 g7 g8 g9 g10 g11 g12 g13 g14 off8 off11 h4 u1 u2 u3 u4 u5 u6 u8 u9 u11 u12 u13 u14 n1 n2 n3 n4 n5 n6 n7 n9 n10 n12 n13 n14 nq
    have all : Ri.DdAll G15 t [V.non, .bl true, .bl false, .int 0, .int 7, .int (-1), .int (10 ^ (20 : Int).toNat), .str "", .str "A", .str "a b", .str (Txt.mul "abcdefgh" 5 ++ ("abc" : Str)), .ref p1, .ref p2, .ref p3, .ref p5, .ref p6, .ref p7, .ref p12, .str "a1", .ref p13] oddD :=
      .cons .non <| .cons (.bl true) <| .cons (.bl false) <| .cons (.int 0) <| .cons (.int 7) <| .cons (.int (-1)) <| .cons (.int _) <| .cons (.str _) <| .cons (.str _) <| .cons (.str _) <| .cons (.str _) <|
      .cons (.lst o1 f1 .nil) <| .cons (.dct o2 f2 rfl .nil) <| .cons (.tup (o3) f3 .nil) <| .cons (.lst o5 f5 (.cons (.str _) .nil)) <| .cons (.tup (o6) f6 (.cons (.str _) (.cons (.str _) .nil))) <|
      .cons (.dct o7 f8 rfl (.cons (.int 1) .nil)) <| .cons (.lst o12 f12 (.cons (.lst o9 f9 (.cons (.str _) .nil)) (.cons (.dct o10 f11 rfl (.cons .non .nil)) .nil))) <| .cons (.str _) <| .cons (.tup (o13) f13 (.cons (.str _) .nil)) .nil
    clear f1 f2 f3 f5 f6 f8 f9 f11 f12 f13
    walk_at "rd"
    refine Rd.len (.inl (.of gq)) ?_
    walk_at "rd"
    refine pickR tp15 (show (0 : Int) < 20 by decide) (show (20 : Int) < 1073741824 by decide) fun r H5 r0 r1 tp5 b5 => ?_
    have r1' : r < 20 := r1
    refine Rd.ixL (.of (b5 _ _ qt gq)) (Rd.atI_of r0 (List.getElem?_eq_getElem (show r.toNat < 20 by omega))) ?_
    obtain ⟨d, hd, dx⟩ := all.get (List.getElem?_eq_getElem (show r.toNat < 20 by omega))
    exact k _ d _ (List.mem_of_getElem? hd) (dx.but b5) tp5 fun b o hb e => b5 b o hb (sH _ _ e)

end
end W

namespace W
open PySem PySem.Spec PyProof.Rows L2
section
variable {P : Program} {w : World} {K : PySem.W.Frag} {mg : Str → Option Value} {base : Heap}
/-- a comprehension that draws -/
def LcStT (t c D : Addr) (H1 : Hp) (R : Nat → List V → Hp → Prop) : Nat → Hp → Prop := fun i H => ∃ acc, H D = some (.lst acc) ∧ Tape H t c ∧ Rd.But t H1 H ∧ R i acc H
def LcPuT (t c D : Addr) (H1 : Hp) (R : Nat → List V → Hp → Prop) (i : Nat) (y : V) (H4 : Hp) : Prop := ∃ acc, H4 D = some (.lst acc) ∧ acc.length < sizeLine ∧ LcStT t c D H1 R (i + 1) (upd H4 D (.lst (acc ++ [y])))
theorem lcPuT {t c D : Addr} {H1 H4 : Hp} {R : Nat → List V → Hp → Prop} {i : Nat} {y : V} {acc : List V} (hD : H4 D = some (.lst acc)) (nD : H1 D = none) (tp1 : Tape H1 t c) (tp : Tape H4 t c) (b : Rd.But t H1 H4) (hz : acc.length < sizeLine) (r : ∀ G : Hp, G D = some (.lst (acc ++ [y])) → (∀ b, b ≠ D → G b = H4 b) → R (i + 1) (acc ++ [y]) G) : LcPuT t c D H1 R i y H4 :=
  have ⟨dt, dc⟩ := tp1.new nD
  ⟨acc, hD, hz, acc ++ [y], upd_same, tp.off dt dc fun q h => upd_ne h, but_off b nD fun q h => upd_ne h, r _ upd_same fun b hb => upd_ne hb⟩
theorem lcT {J : It} {n : Nat} {G : Hp → Prop} {Y : Nat → Hp → V → Hp → Prop} (w : Walk J n G Y) {g : TG} {tt : L2.TT} {te : TE} {vs : List Nat} {σ : L2.St} {H1 : Hp} {Q : VK} {t c : Addr} (tp : Tape H1 t c) (hG : ∀ H, Rd.But t H1 H → G H) (R : Addr → Nat → List V → Hp → Prop)
    (r0 : ∀ (D : Addr) (G : Hp), H1 D = none → G D = some (.lst []) → Same H1 G → R D 0 [] G)
    (hs : ∀ (D : Addr) i x H H' acc, H1 D = none → i < n → H D = some (.lst acc) → Tape H t c → Rd.But t H1 H → R D i acc H → Y i H x H' → g x (wipe σ vs) H' fun σ2 H2 => wipe σ2 vs = wipe σ vs ∧ tt σ2 H2 fun b H3 =>
      if b = true then te σ2 H3 fun y H4 => LcPuT t c D H1 (R D) i y H4 else LcStT t c D H1 (R D) (i + 1) H3)
    (hd : ∀ (D : Addr) acc H, H1 D = none → H D = some (.lst acc) → Tape H t c → Rd.But t H1 H → R D n acc H → Q (.ref D) H) : Rd.Lc J g tt te vs σ H1 Q := fun D nD =>
  lc_it w (LcStT t c D H1 (R D)) ⟨[], upd_same, tp.same (Rd.same_upd nD), Rd.But.of (Rd.same_upd nD), r0 D _ nD upd_same (Rd.same_upd nD)⟩ (fun i H hi ⟨acc, h1, h2, h3, h4⟩ => hG H h3)
    (fun i x H H' hi ⟨acc, h1, h2, h3, h4⟩ y => hs D i x H H' acc nD hi h1 h2 h3 h4 y) (fun H ⟨acc, h1, h2, h3, h4⟩ => hd D acc H nD h1 h2 h3 h4)


end
end W

namespace W
open PySem PySem.Spec PyProof.Rows L2
section
variable {P : Program} {w : World} {K : PySem.W.Frag} {mg : Str → Option Value} {base : Heap}
open Mb (chs lots leastL unableL bySize grB leB)
/-! ### what is handed in: data or a book; what is due -/
open Classical in
/-- a word of at most m letters -/
noncomputable def wdD (m : Nat) : PyData → Bool
  | .str z => decide (Lt.Wd m z)
  | _ => false
open Classical in
noncomputable def letD : PyData → Bool
  | .str z => decide (Lt.Let z)
  | _ => false
def itemsD : PyData → Option (List PyData)
  | .list ds => some ds
  | .tuple ds => some ds
  | _ => none
noncomputable def firstD : List PyData → Option Nat
  | [] => none
  | d :: ds => if wdD 40 d = true then (firstD ds).map (· + 1) else some 0
/-- the first fault of a row of words -/
noncomputable def faultD (d : PyData) : Option Int := match itemsD d with
  | none => some (-1)
  | some ds => if 20 < ds.length then some (-1) else (firstD ds).map fun i => ((i : Nat) : Int)
theorem firstD_at : ∀ {ds : List PyData} {i : Nat} {d : PyData}, (∀ e ∈ ds.take i, wdD 40 e = true) → ds[i]? = some d → wdD 40 d = false → firstD ds = some i
  | [], i, d, _, e, _ => by simp at e
  | c :: ds, 0, d, _, e, n => by
    cases e
    show (if wdD 40 c = true then _ else _) = _
    rw [n, if_neg Bool.false_ne_true]
  | c :: ds, i + 1, d, h, e, n => by
    show (if wdD 40 c = true then _ else _) = _
    rw [if_pos (h c (by simp)), firstD_at (fun x m => h x (by rw [List.take_succ_cons]; exact List.mem_cons_of_mem _ m)) (by simpa using e) n]
    rfl
theorem firstD_none : ∀ {ds : List PyData}, (∀ e ∈ ds, wdD 40 e = true) → firstD ds = none
  | [], _ => rfl
  | c :: ds, h => by
    show (if wdD 40 c = true then _ else _) = _
    rw [if_pos (h c (List.mem_cons_self ..)), firstD_none fun e m => h e (List.mem_cons_of_mem _ m)]
    rfl
theorem firstD_all : ∀ {ds : List PyData}, firstD ds = none → ∃ zs : List Str, ds = zs.map PyData.str ∧ ∀ z ∈ zs, Lt.Wd 40 z
  | [], _ => ⟨[], rfl, fun z m => absurd m List.not_mem_nil⟩
  | c :: ds, h => by
    have h : (if wdD 40 c = true then (firstD ds).map (· + 1) else some 0) = none := h
    by_cases q : wdD 40 c = true
    · rw [if_pos q, Option.map_eq_none_iff] at h
      obtain ⟨zs, rfl, hz⟩ := firstD_all h
      cases c with
      | str z =>
        refine ⟨z :: zs, rfl, fun y m => ?_⟩
        rcases List.mem_cons.mp m with rfl | m
        · exact @of_decide_eq_true _ (Classical.propDecidable _) q
        · exact hz y m
      | _ => cases q
    · rw [if_neg q] at h
      cases h
/-- small texts, small rows -/
def smB : PyData → Bool
  | .str z => decide (z.length ≤ 1000000)
  | .list ds => decide (ds.length ≤ 1000000)
  | .tuple ds => decide (ds.length ≤ 1000000)
  | _ => true
def smAll (d : PyData) : Bool := smB d && match itemsD d with
  | some ds => ds.all smB
  | none => true
def SmI (d : PyData) : Prop := smB d = true
def SmD (d : PyData) : Prop := SmI d ∧ ∀ ds, itemsD d = some ds → ∀ e ∈ ds, SmI e
theorem smD_of {d : PyData} (h : smAll d = true) : SmD d := by
  unfold smAll at h
  rw [Bool.and_eq_true] at h
  refine ⟨h.1, fun ds e x m => ?_⟩
  have h2 := h.2
  rw [e] at h2
  exact List.all_eq_true.mp h2 x m
theorem SmI.s {z : Str} (h : SmI (.str z)) : z.length ≤ 1000000 := of_decide_eq_true h
theorem SmI.l {ds : List PyData} (h : SmI (.list ds)) : ds.length ≤ 1000000 := of_decide_eq_true h
theorem SmI.t {ds : List PyData} (h : SmI (.tuple ds)) : ds.length ≤ 1000000 := of_decide_eq_true h
inductive Ar where
  | dat (d : PyData)
  | bk (ws : List Str)
def ArAt (C : Addr) (H : Hp) (t : Addr) (x : V) : Ar → Prop
  | .dat d => Ri.Dd H t x d ∧ SmD d
  | .bk ws => ∃ b, x = .ref b ∧ BookAt C H b ws ∧ Watches ws
theorem ArAt.same {C t : Addr} {H H' : Hp} {x : V} (s : Same H H') : ∀ {a : Ar}, ArAt C H t x a → ArAt C H' t x a
  | .dat d, h => ⟨h.1.same s, h.2⟩
  | .bk ws, ⟨b, e, h, w⟩ => ⟨b, e, h.same s, w⟩
noncomputable def faultA : Ar → Option Int
  | .dat d => faultD d
  | .bk _ => some (-1)
/-- letters that may be handed in -/
noncomputable def lettersA : Ar → Bool
  | .dat (.str z) => @decide (Lt.Wd 3 z ∧ z.cps.toList.Nodup) (Classical.propDecidable _)
  | _ => false
def mostA : Ar → Bool
  | .dat (.int i) => decide (1 ≤ i ∧ i ≤ 6)
  | _ => false
/-- what is due: 0 BadBook, 1 BadWords, 2 BadLetters, 3 BadMost, 4 TooMany -/
noncomputable def dueOf (kind : Int) (x : V) (a : Ar) (y : V) (b : Ar) (z : V) (c : Ar) : Option (Nat × V) := match a with
  | .dat _ => some (0, x)
  | .bk ws => if kind ≤ 4 then match faultA b with
      | some i => some (1, .int i)
      | none => if 0 < kind ∧ 10 < ws.length then some (4, .non) else none
    else if kind = 5 ∨ kind = 6 then match b with
      | .dat _ => some (0, y)
      | .bk _ => none
    else if kind = 8 then if lettersA b = false then some (2, y) else if mostA c = false then some (3, z) else none
    else none
def Tel (o : Option (Nat × V)) (cls : Nat → Addr) (H : Hp) (E : XK) (good : Prop) : Prop := (∀ n v, o = some (n, v) → Rx.Raised (cls n) v H E) ∧ (o = none → good)
/-- a thing of data, seen as a kind -/
theorem dd_is {t : Addr} {H : Hp} {x : V} {d : PyData} (h : Ri.Dd H t x d) (s : SmI d) : ∃ k : Rx.Kd, Rx.Is H x k ∧ k.isSeq = (itemsD d).isSome ∧ k.isStr = Ri.isStrD d ∧ k.isInt = Ri.isIntD d ∧ k.isBl = Ri.isBoolD d ∧ k.isNum = (Ri.isIntD d && !Ri.isBoolD d) ∧ ∀ i, d = .int i → x = .int i := by
  cases h with
  | non => exact ⟨_, .non, rfl, rfl, rfl, rfl, rfl, fun i e => nomatch e⟩
  | bl b => exact ⟨_, .bl b, rfl, rfl, rfl, rfl, rfl, fun i e => nomatch e⟩
  | int i => exact ⟨_, .int i, rfl, rfl, rfl, rfl, rfl, fun i e => by cases e; rfl⟩
  | str z => exact ⟨_, .str s.s, rfl, rfl, rfl, rfl, rfl, fun i e => nomatch e⟩
  | lst n g all => exact ⟨_, .lst g (by rw [all.len]; exact s.l), rfl, rfl, rfl, rfl, rfl, fun i e => nomatch e⟩
  | tup n g all => exact ⟨_, .tup g (by rw [all.len]; exact s.t), rfl, rfl, rfl, rfl, rfl, fun i e => nomatch e⟩
  | dct n g _ _ => exact ⟨_, .dct g, rfl, rfl, rfl, rfl, rfl, fun i e => nomatch e⟩
theorem dd_items {t : Addr} {H : Hp} {x : V} {d : PyData} {ds : List PyData} (h : Ri.Dd H t x d) (e : itemsD d = some ds) : ∃ (a : Addr) (xs : List V), x = .ref a ∧ Ru.SqR K H a xs ∧ Ri.DdAll H t xs ds := by
  cases h with
  | lst n g all => cases e; exact ⟨_, _, rfl, .inl (.of g), all⟩
  | tup n g all => cases e; exact ⟨_, _, rfl, .inr (.of g), all⟩
  | _ => cases e
theorem dd_strs' {H : Hp} {t : Addr} : ∀ {vs : List V} {zs : List Str}, Ri.DdAll H t vs (zs.map PyData.str) → vs = zs.map V.str
  | [], [], _ => rfl
  | [], _ :: _, h => by cases h
  | _ :: _, [], h => by cases h
  | v :: vs, z :: zs, .cons h1 h2 => by
    cases h1
    rw [dd_strs' h2]
    rfl
/-- no fault: a row of words -/
theorem dd_words {t : Addr} {H : Hp} {x : V} {d : PyData} (h : Ri.Dd H t x d) (e : faultD d = none) : ∃ (a : Addr) (zs : List Str), x = .ref a ∧ Ru.SqR K H a (zs.map V.str) ∧ zs.length ≤ 20 ∧ ∀ z ∈ zs, Lt.Wd 40 z := by
  unfold faultD at e
  cases hi : itemsD d with
  | none => rw [hi] at e; cases e
  | some ds =>
    rw [hi] at e
    have e : (if 20 < ds.length then some (-1 : Int) else (firstD ds).map fun i => ((i : Nat) : Int)) = none := e
    by_cases c : 20 < ds.length
    · rw [if_pos c] at e; cases e
    · rw [if_neg c, Option.map_eq_none_iff] at e
      obtain ⟨zs, rfl, hz⟩ := firstD_all e
      obtain ⟨a, xs, rfl, hS, all⟩ := dd_items (K := K) h hi
      rw [dd_strs' all] at hS
      exact ⟨a, zs, rfl, hS, by rw [List.length_map] at c; omega, hz⟩
theorem nt_of {t : Addr} {H : Hp} {x : V} {d : PyData} (h : Ri.Dd H t x d) (s : SmI d) (n : Ri.isStrD d = false) : NoTxt K H x := let ⟨k, i, _, e, _⟩ := dd_is h s; .inl ⟨k, i, e.trans n⟩
theorem letCall {t : Addr} {H : Hp} {x : V} {d : PyData} {Q : VK} {E : XK} (h : Ri.Dd H t x d) (s : SmI d) (q : ∀ H', Same H H' → Q (.bl (letD d)) H') : sp_is_letters K [x] H Q E := by
  by_cases c : Ri.isStrD d = true
  · cases h with
    | str z => exact .inl ⟨z, rfl, s.s, fun b H' hb s' => by
        rw [show b = letD (.str z) from by rw [Bool.eq_iff_iff, hb]; exact (@decide_eq_true_iff _ (Classical.propDecidable _)).symm]
        exact q H' s'⟩
    | _ => cases c
  · rw [Bool.not_eq_true] at c
    refine .inr ⟨x, rfl, nt_of h s c, fun H' s' => ?_⟩
    have := q H' s'
    rw [show letD d = false by cases d <;> first | rfl | cases c] at this
    exact this
theorem wdCall {t : Addr} {H : Hp} {x : V} {d : PyData} {Q : VK} {E : XK} (h : Ri.Dd H t x d) (s : SmI d) (q : ∀ H', Same H H' → Q (.bl (wdD 40 d)) H') : sp_is_word K [x] H Q E := by
  by_cases c : Ri.isStrD d = true
  · cases h with
    | str z => exact .inl ⟨z, rfl, s.s, fun b H' hb s' => by
        rw [show b = wdD 40 (.str z) from by rw [Bool.eq_iff_iff, hb]; exact (@decide_eq_true_iff _ (Classical.propDecidable _)).symm]
        exact q H' s'⟩
    | _ => cases c
  · rw [Bool.not_eq_true] at c
    refine .inr ⟨x, rfl, nt_of h s c, fun H' s' => ?_⟩
    have := q H' s'
    rw [show wdD 40 d = false by cases d <;> first | rfl | cases c] at this
    exact this

def CL (T : Txt K mg) : Nat → Addr := fun n => match n with
  | 0 => T.C_BadBook
  | 1 => T.C_BadWords
  | 2 => T.C_BadLetters
  | 3 => T.C_BadMost
  | _ => T.C_TooMany
theorem ofD (T : Txt K mg) {t : Addr} {H : Hp} {x : V} {d : PyData} (h : Ri.Dd H t x d) (s : SmI d) : Of K H T.C_Book x false := let ⟨_, i, _⟩ := dd_is h s; Of.kind T.ic_Book T.tc_Book i
/-! ### promises: what is told is left open -/
def Anyo (Q : VK) (H : Hp) : Prop := ∀ v H', Same H H' → Q v H'
def sp_check_words (K : PySem.W.Frag) (CB : Addr) : Sp := fun vs H Q E => ∃ (x : V) (t : Addr) (d : PyData), vs = [x] ∧ Ri.Dd H t x d ∧ SmD d ∧ (∀ i, faultD d = some i → Rx.Raised CB (.int i) H E) ∧ (faultD d = none → ∀ H', Same H H' → Q .non H')
def sp_tells (K : PySem.W.Frag) (C : Addr) (cls : Nat → Addr) : Sp := fun vs H Q E => ∃ (x y z : V) (t : Addr) (a c : Ar) (d : PyData), vs = [x, y] ∧ ArAt C H t x a ∧ Ri.Dd H t y d ∧ SmD d ∧ Tel (dueOf 0 x a y (.dat d) z c) cls H E (Anyo Q H)
def sp_tells_book (K : PySem.W.Frag) (C : Addr) (cls : Nat → Addr) : Sp := fun vs H Q E => ∃ (x y z : V) (t : Addr) (a b c : Ar), vs = [x, y] ∧ ArAt C H t x a ∧ ArAt C H t y b ∧ Tel (dueOf 5 x a y b z c) cls H E (Anyo Q H)
def sp_rules_for (K : PySem.W.Frag) (C : Addr) (cls : Nat → Addr) : Sp := fun vs H Q E => ∃ (x y z : V) (t : Addr) (a b c : Ar), vs = [x, y] ∧ ArAt C H t x a ∧ ArAt C H t y b ∧ Tel (dueOf 6 x a y b z c) cls H E (Anyo Q H)
def sp_needless (K : PySem.W.Frag) (C : Addr) (cls : Nat → Addr) : Sp := fun vs H Q E => ∃ (x y z : V) (t : Addr) (a b c : Ar), vs = [x] ∧ ArAt C H t x a ∧ Tel (dueOf 7 x a y b z c) cls H E (Anyo Q H)
def sp_told_words (K : PySem.W.Frag) (C : Addr) (cls : Nat → Addr) : Sp := fun vs H Q E => ∃ (x y z : V) (t : Addr) (a : Ar) (d e : PyData), vs = [x, y, z] ∧ ArAt C H t x a ∧ Ri.Dd H t y d ∧ SmD d ∧ Ri.Dd H t z e ∧ SmD e ∧ Tel (dueOf 8 x a y (.dat d) z (.dat e)) cls H E (Anyo Q H)
def sp_check_few (K : PySem.W.Frag) (C : Addr) (cls : Nat → Addr) : Sp := fun vs H Q E => ∃ (k : Int) (x y z : V) (t : Addr) (a c : Ar) (d : PyData), vs = [x, y] ∧ 1 ≤ k ∧ k ≤ 4 ∧ ArAt C H t x a ∧ Ri.Dd H t y d ∧ SmD d ∧ Tel (dueOf k x a y (.dat d) z c) cls H E (∀ H', Same H H' → Q .non H')
def AnyN (tt : List (Addr × Str)) (Q : VK) (H : Hp) : Prop := ∀ v H', LamX.ExtN H H' → LamX.Tabs tt H' → Q v H'
def sp_least_lots (K : PySem.W.Frag) (C : Addr) (cls : Nat → Addr) (tt : List (Addr × Str)) : Sp := fun vs H Q E => ∃ (x y z : V) (t : Addr) (a c : Ar) (d : PyData), vs = [x, y] ∧ ArAt C H t x a ∧ Ri.Dd H t y d ∧ SmD d ∧ LamX.Tabs tt H ∧ Tel (dueOf 1 x a y (.dat d) z c) cls H E (AnyN tt Q H)
def sp_unable_lots (K : PySem.W.Frag) (C : Addr) (cls : Nat → Addr) (tt : List (Addr × Str)) : Sp := fun vs H Q E => ∃ (x y z : V) (t : Addr) (a c : Ar) (d : PyData), vs = [x, y] ∧ ArAt C H t x a ∧ Ri.Dd H t y d ∧ SmD d ∧ LamX.Tabs tt H ∧ Tel (dueOf 2 x a y (.dat d) z c) cls H E (AnyN tt Q H)
def sp_is_least_lot (K : PySem.W.Frag) (C : Addr) (cls : Nat → Addr) : Sp := fun vs H Q E => ∃ (x y z : V) (t : Addr) (a c : Ar) (d e : PyData), vs = [x, y, z] ∧ ArAt C H t x a ∧ Ri.Dd H t y d ∧ SmD d ∧ Ri.Dd H t z e ∧ Few e ∧ Tel (dueOf 3 x a y (.dat d) z c) cls H E (Anyo Q H)
def sp_is_unable_lot (K : PySem.W.Frag) (C : Addr) (cls : Nat → Addr) : Sp := fun vs H Q E => ∃ (x y z : V) (t : Addr) (a c : Ar) (d e : PyData), vs = [x, y, z] ∧ ArAt C H t x a ∧ Ri.Dd H t y d ∧ SmD d ∧ Ri.Dd H t z e ∧ Few e ∧ Tel (dueOf 4 x a y (.dat d) z c) cls H E (Anyo Q H)
theorem due_w {k : Int} {x y z : V} {ws : List Str} {b c : Ar} (h : k ≤ 4) : dueOf k x (.bk ws) y b z c = match faultA b with | some i => some (1, .int i) | none => if 0 < k ∧ 10 < ws.length then some (4, .non) else none := if_pos h
theorem due_w1 {k i : Int} {x y z : V} {ws : List Str} {d : PyData} {c : Ar} (h : k ≤ 4) (e : faultD d = some i) : dueOf k x (.bk ws) y (.dat d) z c = some (1, .int i) := by
  rw [due_w h, show faultA (.dat d) = some i from e]
theorem due_w0 {k : Int} {x y z : V} {ws : List Str} {d : PyData} {c : Ar} (h : k ≤ 4) (e : faultD d = none) : dueOf k x (.bk ws) y (.dat d) z c = if 0 < k ∧ 10 < ws.length then some (4, .non) else none := by
  rw [due_w h, show faultA (.dat d) = none from e]
theorem due_b {k : Int} {x y z : V} {ws : List Str} {b c : Ar} (h : k = 5 ∨ k = 6) : dueOf k x (.bk ws) y b z c = match b with | .dat _ => some (0, y) | .bk _ => none := by
  show (if k ≤ 4 then _ else _) = _
  rw [if_neg (by omega), if_pos h]
theorem due_l {x y z : V} {ws : List Str} {b c : Ar} : dueOf 8 x (.bk ws) y b z c = if lettersA b = false then some (2, y) else if mostA c = false then some (3, z) else none := by
  show (if (8 : Int) ≤ 4 then (match faultA b with | some i => some (1, V.int i) | none => if 0 < (8 : Int) ∧ 10 < ws.length then some (4, V.non) else none) else if (8 : Int) = 5 ∨ (8 : Int) = 6 then (match b with | .dat _ => some (0, y) | .bk _ => none) else if (8 : Int) = 8 then if lettersA b = false then some (2, y) else if mostA c = false then some (3, z) else none else none) = _
  rw [if_neg (by omega), if_neg (by omega), if_pos rfl]
theorem due_7 {x y z : V} {ws : List Str} {b c : Ar} : dueOf 7 x (.bk ws) y b z c = none := by
  show (if (7 : Int) ≤ 4 then (match faultA b with | some i => some (1, V.int i) | none => if 0 < (7 : Int) ∧ 10 < ws.length then some (4, V.non) else none) else if (7 : Int) = 5 ∨ (7 : Int) = 6 then (match b with | .dat _ => some (0, y) | .bk _ => none) else if (7 : Int) = 8 then if lettersA b = false then some (2, y) else if mostA c = false then some (3, z) else none else none) = _
  rw [if_neg (by omega), if_neg (by omega), if_neg (by omega)]
theorem due_none {k : Int} {x y z : V} {a c : Ar} {d : PyData} (e : dueOf k x a y (.dat d) z c = none) (h1 : 1 ≤ k) (h : k ≤ 4) : ∃ ws, a = .bk ws ∧ faultD d = none ∧ ws.length ≤ 10 := by
  cases a with
  | dat d0 => cases e
  | bk ws =>
    cases f : faultD d with
    | some i => rw [due_w1 h f] at e; cases e
    | none =>
      rw [due_w0 h f] at e
      by_cases q : 0 < k ∧ 10 < ws.length
      · rw [if_pos q] at e; cases e
      · exact ⟨ws, rfl, rfl, by omega⟩
theorem ok_check_words (T : Txt K mg) : FnOk P w K mg base (L2.CX P w) 4 T.f_check_words T.fd_check_words ["words"] (sp_check_words K T.C_BadWords) := by
  refine T.F_check_words.okX sc_check_words (fun vs H Q E h => ?_) (fun cdv A outer s H vs Q E hr h => ?_)
  · obtain ⟨x, t, d, rfl, _⟩ := h
    rfl
  · obtain ⟨x, t, d, rfl, hd, sm, bad, good⟩ := h
    refine ⟨_, (pss_cons (ps_if (PW.pt (pw_or (pt_not (pt_val (pe_callB (id := "isinstance") (r := rIsiT K) call_isiT (by rfl) T.n_isinstance (by decide +kernel) (pa_cons (pv 0) (pa_cons (pe_tup (pa_cons (pe_bltn (v := .ty "list") (u := .type "list") (by rfl) T.n_list (by decide +kernel) rfl) (pa_cons (pe_bltn (v := .ty "tuple") (u := .type "tuple") (by rfl) T.n_tuple (by decide +kernel) rfl) pa_nil))) pa_nil))))) (pw_or1 (pt_cmpR op_gt (pe_callB (id := "len") (r := Rd.nLen K) Rd.c_len (by rfl) T.n_len (by decide +kernel) (pa_cons (pv 0) pa_nil)) (pe_glob (v := .int 20) rfl T.m_MOST_WORDS ⟨_, rfl⟩) (nomark _)))))
  (pss_one (Rx.ps_raise1 rfl T.X_BadWords T.tI_WayError_init (ok_WayError_init T) (hr.mono (by decide)) T.b_WayError_init rfl T.c_BadWords (takes_of rfl rfl rfl rfl) (pe_un un_neg pe_int)))
  pss_nil)
  (pss_one (ps_for (passes_of rfl) rfl (Ru.pi_or (pi_enum (by rfl) T.n_enumerate (pa_cons (pv 0) pa_nil)) (Ru.pi_enumT (by rfl) T.n_enumerate (pa_cons (pv 0) pa_nil))) (pg_tup rfl (pgs_cons (pg_name (i := 1) sc_check_words.nd rfl (.inl rfl)) (pgs_cons (pg_name (i := 2) sc_check_words.nd rfl (.inl rfl)) pgs_nil)))
  (pss_one (ps_if (pt_not (pt_val (pe_call (ok_is_word T) (hr.mono (by decide)) rfl T.g_is_word T.F_is_word.kp T.b_is_word .nil pass0 (pa_cons (pv 2) pa_nil))))
  (pss_one (Rx.ps_raise1 rfl T.X_BadWords T.tI_WayError_init (ok_WayError_init T) (hr.mono (by decide)) T.b_WayError_init rfl T.c_BadWords (takes_of rfl rfl rfl rfl) (pv 1)))
  pss_nil))))), ?_⟩
    walk_at "rd"
    refine ⟨Nat.le_of_ble_eq_true rfl, Rd.new fun p G hp gp sG => ?_⟩
    walk_at "rd"
    obtain ⟨k, ki, ks, _⟩ := dd_is hd sm.1
    refine Rx.askSeq gp (ki.same sG) ?_
    cases hi : itemsD d with
    | none =>
      rw [ks, hi, Option.isSome_none]
      walk_at "rd"
      exact (bad (-1) (by unfold faultD; rw [hi])).now sG
    | some ds =>
      rw [ks, hi, Option.isSome_some]
      obtain ⟨a, xs, rfl, hS, all⟩ := dd_items (K := K) hd hi
      have len := all.len
      walk_at "rd"
      refine Rd.len (hS.same sG) ?_
      rw [len]
      walk_at "rd"
      by_cases c : 20 < ds.length
      · refine Rd.yes (by omega) ?_
        walk_at "rd"
        exact (bad (-1) (by unfold faultD; rw [hi]; exact if_pos c)).now sG
      · refine Rd.no (by omega) ?_
        have ef : faultD d = (firstD ds).map fun i => ((i : Nat) : Int) := by unfold faultD; rw [hi]; exact if_neg c
        walk_at "rd"
        refine Ru.for_enumR (a := a) (xs := xs) (fun Q q => ?_) (fun i σ H' => ∃ x y, σ = [some (.ref a), x, y] ∧ Same G H' ∧ ∀ e ∈ ds.take i, wdD 40 e = true) (hS.same sG) ⟨_, _, rfl, Same.refl _, fun e m => by simp at m⟩ (fun i σ H' _ ⟨_, _, _, z, _⟩ => z) ?_ ?_
        · walk_at "rd"
          exact q
        · rintro i x _ H' p hx ⟨_, _, rfl, s1, oks⟩ hT
          obtain ⟨e, he, de⟩ := all.get hx
          have sT := s1.trans (Rd.same_upd (o := .tup [.int (i : Nat), x]) hT)
          refine Rd.tupT (.of upd_same) rfl ?_
          walk_at "rd"
          refine wdCall (de.same (sG.trans sT)) (sm.2 ds hi e (List.mem_of_getElem? he)) fun H1 s1 => ?_
          cases q : wdD 40 e with
          | false =>
            walk_at "rd"
            exact (bad i (by rw [ef, firstD_at oks he q]; rfl)).now (sG.trans (sT.trans s1))
          | true =>
            walk_at "rd"
            refine ⟨_, _, rfl, sT.trans s1, fun y m => ?_⟩
            rw [Rd.take_snoc he] at m
            rcases List.mem_append.mp m with m | m
            · exact oks y m
            · rw [List.mem_singleton.mp m]
              exact q
        · rintro _ H' ⟨_, _, rfl, s1, oks⟩
          rw [len, List.take_length] at oks
          walk_at "rd"
          exact good (by rw [ef, firstD_none oks]; rfl) _ (sG.trans s1)
theorem ok_tells (T : Txt K mg) : FnOk P w K mg base (L2.CX P w) 5 T.f_tells T.fd_tells ["book", "words"] (sp_tells K T.C_Book (CL T)) := by
  refine T.F_tells.okX sc_tells (fun vs H Q E h => ?_) (fun cdv A outer s H vs Q E hr h => ?_)
  · obtain ⟨x, y, z, t, a, c, d, rfl, _⟩ := h
    rfl
  · obtain ⟨x, y, z, t, a, c, d, rfl, ha, hd, sm, tel⟩ := h
    refine ⟨_, (pss_cons (ps_expr (pe_callS (ok_check_book T) (hr.mono (by decide)) rfl T.g_check_book T.F_check_book.kp T.b_check_book (fun σ => passAt (takes_of rfl rfl rfl rfl) σ) (pa_cons (pv 0) pa_nil)))
  (pss_cons (ps_expr (pe_callS (ok_check_words T) (hr.mono (by decide)) rfl T.g_check_words T.F_check_words.kp T.b_check_words (fun σ => passAt (takes_of rfl rfl rfl rfl) σ) (pa_cons (pv 1) pa_nil)))
  (pss_one (ps_ret (pe_call (ok_leads_all T) (hr.mono (by decide)) rfl T.g_leads_all T.F_leads_all.kp T.b_leads_all .nil pass0 (pa_cons (pe_fld (pv 0) rfl) (pa_cons (pv 1) pa_nil))))))), ?_⟩
    cases a with
    | dat d0 =>
      walk_at "rd"
      exact ⟨x, rfl, .inr ⟨ofD T ha.1 ha.2.1, tel.1 0 x rfl⟩⟩
    | bk ws =>
      obtain ⟨b, rfl, hB, W⟩ := ha
      walk_at "rd"
      refine ⟨_, rfl, .inl ⟨b, ws, rfl, hB, ?_⟩⟩
      walk_at "rd"
      refine ⟨y, t, d, rfl, hd, sm, fun i e => tel.1 1 _ (due_w1 (by decide) e), fun e H1 s1 => ?_⟩
      obtain ⟨a2, zs, rfl, hZ, z20, hz⟩ := dd_words (K := K) hd e
      obtain ⟨dx, tt, hb, ht⟩ := hB.same s1
      have w1 := W.l1
      walk_at "rd"
      refine Rd.fld hb T.cl_Book T.na_Book_watches rfl ?_
      walk_at "rd"
      refine ⟨tt, a2, ws, zs, rfl, .inr (.of ht), W.small, by omega, hZ.same s1, fun z m => by have := (hz z m).l1; omega, by omega, fun v H2 s2 _ => ?_⟩
      exact tel.2 ((due_w0 (by decide) e).trans (if_neg fun q => absurd q.1 (by decide))) _ _ (s1.trans s2)
theorem ok_tells_book (T : Txt K mg) : FnOk P w K mg base (L2.CX P w) 5 T.f_tells_book T.fd_tells_book ["one", "other"] (sp_tells_book K T.C_Book (CL T)) := by
  refine T.F_tells_book.okX sc_tells_book (fun vs H Q E h => ?_) (fun cdv A outer s H vs Q E hr h => ?_)
  · obtain ⟨x, y, z, t, a, b, c, rfl, _⟩ := h
    rfl
  · obtain ⟨x, y, z, t, a, b, c, rfl, ha, hb, tel⟩ := h
    refine ⟨_, (pss_cons (ps_expr (pe_callS (ok_check_book T) (hr.mono (by decide)) rfl T.g_check_book T.F_check_book.kp T.b_check_book (fun σ => passAt (takes_of rfl rfl rfl rfl) σ) (pa_cons (pv 0) pa_nil)))
  (pss_cons (ps_expr (pe_callS (ok_check_book T) (hr.mono (by decide)) rfl T.g_check_book T.F_check_book.kp T.b_check_book (fun σ => passAt (takes_of rfl rfl rfl rfl) σ) (pa_cons (pv 1) pa_nil)))
  (pss_one (ps_ret (pe_call (ok_leads_all T) (hr.mono (by decide)) rfl T.g_leads_all T.F_leads_all.kp T.b_leads_all .nil pass0 (pa_cons (pe_fld (pv 0) rfl) (pa_cons (pe_fld (pv 1) rfl) pa_nil))))))), ?_⟩
    cases a with
    | dat d0 =>
      walk_at "rd"
      exact ⟨x, rfl, .inr ⟨ofD T ha.1 ha.2.1, tel.1 0 x rfl⟩⟩
    | bk ws =>
      obtain ⟨b1, rfl, hA, La⟩ := ha
      walk_at "rd"
      refine ⟨_, rfl, .inl ⟨b1, ws, rfl, hA, ?_⟩⟩
      walk_at "rd"
      cases b with
      | dat d0 => exact ⟨y, rfl, .inr ⟨ofD T hb.1 hb.2.1, tel.1 0 y (due_b (.inl rfl))⟩⟩
      | bk zs =>
        obtain ⟨b2, rfl, hB, Lb⟩ := hb
        refine ⟨_, rfl, .inl ⟨b2, zs, rfl, hB, ?_⟩⟩
        obtain ⟨dx, t, hb1, ht1⟩ := hA
        obtain ⟨dx2, t2, hb2, ht2⟩ := hB
        walk_at "rd"
        refine Rd.fld hb1 T.cl_Book T.na_Book_watches rfl ?_
        walk_at "rd"
        refine Rd.fld hb2 T.cl_Book T.na_Book_watches rfl ?_
        walk_at "rd"
        have l1 := La.l1
        have l2 := Lb.l1
        exact ⟨t, t2, ws, zs, rfl, .inr (.of ht1), La.small, by omega, .inr (.of ht2), fun z h => (Lb.small z h).2, by omega, fun v H' s' _ => tel.2 (due_b (.inl rfl)) _ _ s'⟩
theorem ok_rules_for (T : Txt K mg) : FnOk P w K mg base (L2.CX P w) 5 T.f_rules_for T.fd_rules_for ["one", "other"] (sp_rules_for K T.C_Book (CL T)) := by
  refine T.F_rules_for.okX sc_rules_for (fun vs H Q E h => ?_) (fun cdv A outer s H vs Q E hr h => ?_)
  · obtain ⟨x, y, z, t, a, b, c, rfl, _⟩ := h
    rfl
  · obtain ⟨x, y, z, t, a, b, c, rfl, ha0, hb0, tel⟩ := h
    refine ⟨_, (pss_cons (ps_expr (pe_callS (ok_check_book T) (hr.mono (by decide)) rfl T.g_check_book T.F_check_book.kp T.b_check_book (fun σ => passAt (takes_of rfl rfl rfl rfl) σ) (pa_cons (pv 0) pa_nil)))
  (pss_cons (ps_expr (pe_callS (ok_check_book T) (hr.mono (by decide)) rfl T.g_check_book T.F_check_book.kp T.b_check_book (fun σ => passAt (takes_of rfl rfl rfl rfl) σ) (pa_cons (pv 1) pa_nil)))
  (pss_cons (Rw.ps_setDc (i := 2) (own := [("watch", 3)]) (g := gName 3) (tt := tYes) rfl sc_rules_for.nd rfl rfl (Rw.sw_dc rfl rfl rfl (by decide +kernel)) (pi_tup (pe_fld (pv 1) rfl)) (blkOk_by (own := [("watch", 3)]) (N := ["one", "other", "rules", "watch", "steps"]) (sc := defScope s_rules_for) (by decide +kernel)) (fun _ _ _ _ _ => (pg_name (i := 3) sc_rules_for.nd rfl (.inl rfl))) (fun _ _ _ _ _ => pts_nil) (fun _ _ _ _ _ => (pv 3)) (fun _ _ _ _ _ => (pe_call (ok_rule_by T) (hr.mono (by decide)) rfl T.g_rule_by T.F_rule_by.kp T.b_rule_by .nil pass0 (pa_cons (pe_fld (pv 0) rfl : PE _ _ (tFld K _ _)) (pa_cons (pv 3) pa_nil)))))
  (pss_one (ps_ret (pe_lock (pe_dc (own := [("watch", 3), ("steps", 4)]) (g := gTup K 2 (gCons (gName 3) (gCons (gName 4) gNil)))  rfl sc_rules_for.nd (pi_items (pv 2)) (blkOk_by (own := [("watch", 3), ("steps", 4)]) (N := ["one", "other", "rules", "watch", "steps"]) (sc := defScope s_rules_for) (by decide +kernel)) (fun _ _ _ _ _ => (pg_tup rfl (pgs_cons (pg_name (i := 3) sc_rules_for.nd rfl (.inl rfl)) (pgs_cons (pg_name (i := 4) sc_rules_for.nd rfl (.inl rfl)) pgs_nil)))) (fun _ _ _ _ _ => pts_one (pt_cmpR op_notN (pv 4) pe_non (nomark _))) (fun _ _ _ _ _ => (pv 3)) (fun _ _ _ _ _ => (pv 4))))))))), ?_⟩
    cases a with
    | dat d0 =>
      walk_at "rd"
      exact ⟨x, rfl, .inr ⟨ofD T ha0.1 ha0.2.1, tel.1 0 x rfl⟩⟩
    | bk ws =>
      obtain ⟨a, rfl, hA, Wt⟩ := ha0
      walk_at "rd"
      refine ⟨_, rfl, .inl ⟨a, ws, rfl, hA, ?_⟩⟩
      walk_at "rd"
      cases b with
      | dat d0 => exact ⟨y, rfl, .inr ⟨ofD T hb0.1 hb0.2.1, tel.1 0 y (due_b (.inr rfl))⟩⟩
      | bk us =>
        obtain ⟨b, rfl, hB, Ut⟩ := hb0
        refine ⟨_, rfl, .inl ⟨b, us, rfl, hB, ?_⟩⟩
        walk_at "rd"
        obtain ⟨dx, t, ha, ht⟩ := id hA
        obtain ⟨dx2, t2, hb, ht2⟩ := id hB
        have wl := Wt.l1
        have ul := Ut.l1
        refine Rd.fld hb T.cl_Book T.na_Book_watches rfl ?_
        walk_at "rd"
        refine ⟨⟨_, .of ht2⟩, Rw.dcS walk_tup (fun _ s => .of (s _ _ ht2)) (fun D i kvs Hc => ∃ es : List (Str × V), kvs = es.map (fun e => (.inr e.1, e.2)) ∧ es.map (·.1) = us.take i ∧ ∀ e ∈ es, Rule H Hc ws e.1 e.2) (fun _ _ _ _ _ => ⟨[], rfl, rfl, fun e h => by simp at h⟩) ?_ ?_⟩
        · rintro D i x H1 _ kvs nD hi hD sm ⟨es, rfl, hes, hr⟩ ⟨rfl, hx⟩
          obtain ⟨W, hW, rfl⟩ := Rd.map_strG hx
          have WL := Ut.ok W (List.mem_of_getElem? hW)
          have w1 := WL.l1
          walk_at "rd"
          refine ⟨rfl, Rd.tyes ?_⟩
          walk_at "rd"
          refine Rd.fld (sm _ _ ha) T.cl_Book T.na_Book_watches rfl ?_
          walk_at "rd"
          refine ⟨t, ws, W, rfl, .inr (.of (sm _ _ ht)), fun V m => ⟨(Wt.ok V m).l0, by have := (Wt.ok V m).l1; omega⟩, by omega, by omega, fun r H2 s2 ru => ?_⟩
          have hn : (Sum.inr W : Key) ∉ (es.map fun e => ((.inr e.1 : Key), e.2)).map (·.1) := by
            rw [List.map_map]
            intro q
            obtain ⟨e, he, q⟩ := List.mem_map.mp q
            have : e.1 = W := Sum.inr.inj q
            have m : W ∈ us.take i := by rw [← hes, ← this]; exact List.mem_map.mpr ⟨e, he, rfl⟩
            exact Rd.nodup_take Ut.nd hW m
          refine Rw.dcPut (k := .inr W) (s2 _ _ hD) nD (sm.trans s2) ?_ fun G g off => ?_
          · have : es.length = (us.take i).length := by rw [← hes, List.length_map]
            rw [List.length_map, this, List.length_take, sizeLine_eq]
            omega
          have sG : ∀ (e : Str × V), Rule H H2 ws e.1 e.2 → Rule H G ws e.1 e.2 := fun e q => q.imp id fun ⟨q, P, h1, h2, h3, h4⟩ => ⟨q, P, h1, h2.keep fun c xs q => by rw [off c (ne_of q (s2 _ _ hD) (fun z => nomatch z))]; exact q, h3, h4⟩
          rw [putK_new hn]
          refine ⟨es ++ [(W, r)], by rw [List.map_append]; rfl, by rw [List.map_append, hes, Rd.take_snoc hW]; rfl, fun e he => sG e ?_⟩
          rcases List.mem_append.mp he with he | he
          · exact (hr e he).imp id fun ⟨q, P, h1, h2, h3, h4⟩ => ⟨q, P, h1, h2.same s2, h3, h4⟩
          · simp at he
            subst he
            exact ru.imp id fun ⟨q, P, h1, h2, h3, h4⟩ => ⟨q, P, h1, h2, sm.free h3, h4⟩
        · rintro d kvs H1 nd hd sm ⟨es, rfl, hes, hr⟩
          rw [List.length_map, List.take_length] at hes
          walk_at "rd"
          refine Rw.lockE hd trivial fun od G gd off => ?_
          walk_at "rd"
          refine Rw.itemsX gd ?_
          have sHG : Same H G := Rd.same_off sm nd off
          have len : (es.map fun e => ((.inr e.1 : Key), e.2)).length = es.length := List.length_map _
          refine Rw.dcS walk_items (fun _ s => s _ _ gd) (fun D i kvs Hc => ∃ fs : List (Str × Addr × List Nat), kvs = fs.map ent ∧ fs.map (·.1) = toldOf ws (us.take i) ∧ ∀ e ∈ fs, StepsAt Hc e.2.1 (stepsOf e.1 e.2.2) ∧ Mz.Gr (Mw.Adj ws e.1) e.1.length 0 e.2.2) (fun _ _ _ _ _ => ⟨[], rfl, rfl, fun e h => by simp at h⟩) ?_ ?_
          · rintro D i x H2 _ kvs2 nD hi hD s2 ⟨fs, rfl, hfs, hf⟩ ⟨T', x', y', rfl, hT, rfl, hx, hy⟩
            rw [len] at hi
            have he : es[i]? = some es[i] := List.getElem?_eq_getElem hi
            have hWi : us[i]? = some (es[i]).1 := by
              have := congrArg (·[i]?) hes
              simpa [he] using this.symm
            have hru := hr es[i] (List.getElem_mem hi)
            dsimp only at hx hy
            rw [List.getElem?_map, he] at hx hy
            have ex : x' = .str (es[i]).1 := (Option.some.inj hx).symm
            have ey : y' = (es[i]).2 := (Option.some.inj hy).symm
            generalize es[i] = e0 at hWi hru ex ey
            obtain ⟨W, v⟩ := e0
            simp only at hWi hru ex ey
            subst ex ey
            have sT := Rd.same_upd (o := .tup [.str W, y']) hT
            have gT : upd H2 T' (.tup [.str W, y']) T' = some (.tup [.str W, y']) := upd_same
            generalize upd H2 T' (.tup [.str W, y']) = H3 at sT gT
            have step := toldOf_step (ws := ws) hWi
            refine Rd.tupT (.of gT) rfl ?_
            walk_at "rd"
            refine ⟨rfl, ?_⟩
            walk_at "rd"
            refine ⟨rfl, ?_⟩
            rcases hru with ⟨rfl, nt⟩ | ⟨q, P, rfl, hq, nq, g⟩
            · walk_at "rd"
              refine Rd.ifN ?_
              walk_at "rd"
              refine ⟨_, sT _ _ hD, s2.trans sT, fs, rfl, by rw [hfs, step, if_neg nt, List.append_nil], fun e m => ⟨(hf e m).1.same sT, (hf e m).2⟩⟩
            · walk_at "rd"
              refine Rd.ifR ?_
              walk_at "rd"
              have hq3 : StepsAt H3 q (stepsOf W P) := (hq.keep fun c xs z => by rw [off c (ne_of z hd (fun z => nomatch z))]; exact z).same (s2.trans sT)
              have tt : Mw.Told ws W := gr_told g
              have hn : (Sum.inr W : Key) ∉ (fs.map ent).map (·.1) := by
                rw [List.map_map]
                intro z
                obtain ⟨e, he, z⟩ := List.mem_map.mp z
                have : e.1 = W := Sum.inr.inj z
                have m : W ∈ toldOf ws (us.take i) := by rw [← hfs, ← this]; exact List.mem_map.mpr ⟨e, he, rfl⟩
                exact Rd.nodup_take Ut.nd hWi (toldOf_mem.mp m).1
              refine Rw.dcPut (k := .inr W) (sT _ _ hD) nD (s2.trans sT) ?_ fun G2 g2 off2 => ?_
              · have l1 : fs.length = (toldOf ws (us.take i)).length := by rw [← hfs, List.length_map]
                have l2 := List.length_filter_le (fun W => @decide (Mw.Told ws W) (Classical.propDecidable _)) (us.take i)
                have l3 : (toldOf ws (us.take i)).length ≤ (us.take i).length := l2
                rw [List.length_take] at l3
                rw [List.length_map, sizeLine_eq]
                omega
              have kp : ∀ c xs, H3 c = some (.tup xs) → G2 c = some (.tup xs) := fun c xs z => by rw [off2 c (ne_of z (sT _ _ hD) (fun z => nomatch z))]; exact z
              rw [putK_new hn]
              refine ⟨fs ++ [(W, q, P)], by rw [List.map_append]; rfl, by rw [List.map_append, hfs, step, if_pos tt]; rfl, fun e he => ?_⟩
              rcases List.mem_append.mp he with he | he
              · exact ⟨((hf e he).1.same sT).keep kp, (hf e he).2⟩
              · simp at he
                subst he
                exact ⟨hq3.keep kp, g⟩
          · rintro D kvs2 H2 nD hD s2 ⟨fs, rfl, hfs, hf⟩
            rw [len, show es.length = us.length by rw [← hes, List.length_map], List.take_length] at hfs
            have gd2 := s2 _ _ gd
            refine ⟨gd2, ?_⟩
            have dD : D ≠ d := fun e => by rw [e, gd] at nD; cases nD
            refine tel.2 (due_b (.inr rfl)) _ _ (fun c o z => ?_)
            rw [upd_ne (ne_of_none z nd)]
            exact s2 _ _ (sHG _ _ z)
theorem ok_needless (T : Txt K mg) : FnOk P w K mg base (L2.CX P w) 5 T.f_needless T.fd_needless ["book"] (sp_needless K T.C_Book (CL T)) := by
  refine T.F_needless.okX sc_needless (fun vs H Q E h => ?_) (fun cdv A outer s H vs Q E hr h => ?_)
  · obtain ⟨x, y, z, t, a, b, c, rfl, _⟩ := h
    rfl
  · obtain ⟨x, y, z, t, a, b, c, rfl, ha, tel⟩ := h
    refine ⟨_, (pss_cons (ps_expr (pe_callS (ok_check_book T) (hr.mono (by decide)) rfl T.g_check_book T.F_check_book.kp T.b_check_book (fun σ => passAt (takes_of rfl rfl rfl rfl) σ) (pa_cons (pv 0) pa_nil)))
  (pss_cons (ps_set (i := 1) sc_needless.nd rfl (.inl rfl) (pe_lst pa_nil))
  (pss_cons (ps_for (passes_of rfl) rfl (pi_tup (pe_fld (pv 0) rfl)) (pg_name (i := 2) sc_needless.nd rfl (.inr rfl))
  (pss_one (ps_if (pt_val (pe_call (ok_leads T) (hr.mono (by decide)) rfl T.g_leads T.F_leads.kp T.b_leads .nil pass0 (pa_cons (pe_lc (own := [("other", 3)]) (g := gName 3)  rfl sc_needless.nd (pi_tup (pe_fld (pv 0) rfl)) (blkOk_by (own := [("other", 3)]) (N := ["book", "found", "watch", "other"]) (sc := defScope s_needless) (by decide +kernel)) (fun _ _ _ _ _ => (pg_name (i := 3) sc_needless.nd rfl (.inl rfl))) (fun _ _ _ _ _ => pts_one (pt_cmpR op_ne (pv 3) (pv 2) (nomark _))) (fun _ _ _ _ _ => (pv 3))) (pa_cons (pv 2) pa_nil))))
  (pss_one (ps_expr (pe_bm PySem.F.plainAttrs_list PySem.F.slot_list_append PySem.F.type_list_append mt_append (pv 1) (pa_cons (pv 2) pa_nil))))
  pss_nil)))
  (pss_one (ps_ret (pv 1)))))), ?_⟩
    cases a with
    | dat d0 =>
      walk_at "rd"
      exact ⟨x, rfl, .inr ⟨ofD T ha.1 ha.2.1, tel.1 0 x rfl⟩⟩
    | bk ws =>
      obtain ⟨b, rfl, hB, L⟩ := ha
      have k : ∀ (l : Addr) H', Same H H' → H l = none → H' l = some (.lst ((dues ws ws).map V.str)) → Q (.ref l) H' := fun l H' s' _ _ => tel.2 due_7 _ _ s'
      have l1 := L.l1
      obtain ⟨dx, t, hb, ht⟩ := id hB
      walk_at "rd"
      refine ⟨_, rfl, .inl ⟨b, ws, rfl, hB, ?_⟩⟩
      walk_at "rd"
      refine ⟨Nat.zero_le _, Rd.new fun f G nf gf sG => ?_⟩
      walk_at "rd"
      refine Rd.forS ?_
      walk_at "rd"
      refine Rd.fld (sG _ _ hb) T.cl_Book T.na_Book_watches rfl ?_
      walk_at "rd"
      refine ⟨⟨_, .of (sG _ _ ht)⟩, for_tup (K := K) (a := t) (xs := ws.map V.str) (fun i σ H' => ∃ o : Option V, σ = [some (.ref b), some (.ref f), o, none] ∧ Same H H' ∧ H' f = some (.lst ((dues ws (ws.take i)).map V.str)))
        ⟨_, rfl, sG, gf⟩ (fun i σ H' _ ⟨_, _, s, _⟩ => .of (s _ _ ht)) ?_ ?_⟩
      · rintro i x _ H1 hx ⟨o, rfl, s1, hf⟩
        obtain ⟨W, hW, rfl⟩ := Rd.map_strG hx
        have WL := L.ok W (List.mem_of_getElem? hW)
        have wl := WL.l1
        walk_at "rd"
        refine Rd.fld (s1 _ _ hb) T.cl_Book T.na_Book_watches rfl ?_
        walk_at "rd"
        refine ⟨⟨_, .of (s1 _ _ ht)⟩, Rd.lcS walk_tup (fun _ s => .of (s _ _ (s1 _ _ ht))) (fun D i acc Hc => acc = ((ws.take i).filter fun V => !decide (V = W)).map V.str) (fun _ _ _ _ _ => rfl) ?_ ?_⟩
        · rintro D i x G1 _ acc nD hi hD sm rfl ⟨rfl, hx⟩
          obtain ⟨y, hy, rfl⟩ := Rd.map_strG hx
          walk_at "rd"
          refine ⟨rfl, ?_⟩
          walk_at "rd"
          refine ite2 (fun q => ?_) (fun q => ?_)
          · walk_at "rd"
            refine ⟨_, hD, sm, ?_⟩
            dsimp only
            rw [filt_stepB hy, decide_eq_true q]
            simp
          · walk_at "rd"
            refine Rd.lcPush hD nD sm ?_ fun G2 g2 off2 => ?_
            · rw [List.length_map, sizeLine_eq]
              have := List.length_filter_le (fun V => !decide (V = W)) (ws.take i)
              rw [List.length_take] at this
              omega
            · skip
              rw [filt_stepB hy, decide_eq_false q, List.map_append]
              rfl
        · rintro D acc G1 nD hD sm rfl
          rw [List.length_map, List.take_length] at hD
          walk_at "rd"
          have LF := L.filter fun V => !decide (V = W)
          have lf := LF.l1
          refine ⟨D, others ws W, W, rfl, .inl (.of hD), LF.small, by show (ws.filter _).length ≤ _; omega, by omega, fun b1 H2 s2 e => ?_⟩
          walk_at "rd"
          have step := dues_step (ws := ws) hW e
          cases b1 with
          | true =>
            walk_at "rd"
            have hf2 := s2 _ _ (sm _ _ hf)
            refine Rd.tyL (.of hf2) ?_
            walk_at "rd"
            refine Rd.app hf2 ?_ fun G3 g3 off3 => ?_
            · have := dues_le ws (ws.take i)
              rw [List.length_take] at this
              rw [List.length_map, sizeLine_eq]
              omega
            · walk_at "rd"
              refine ⟨_, rfl, fun c o e => ?_, ?_⟩
              · rw [off3 c (ne_of_none e nf)]
                exact s2 _ _ (sm _ _ (s1 _ _ e))
              · rw [step, List.map_append]
                exact g3
          | false =>
            walk_at "rd"
            refine ⟨_, rfl, (s1.trans sm).trans s2, ?_⟩
            rw [step]
            show H2 f = some (.lst ((dues ws (ws.take i) ++ []).map V.str))
            rw [List.append_nil]
            exact s2 _ _ (sm _ _ hf)
      · rintro _ H1 ⟨o, rfl, s1, hf⟩
        rw [List.length_map, List.take_length] at hf
        walk_at "rd"
        exact k f H1 s1 nf hf
theorem letD_ex {d : PyData} (h : letD d = true) : ∃ L, d = .str L ∧ Lt.Let L := by
  cases d with
  | str L => exact ⟨L, rfl, @of_decide_eq_true _ (Classical.propDecidable _) h⟩
  | _ => cases h
theorem lettersA_iff {L : Str} : lettersA (.dat (.str L)) = true ↔ Lt.Wd 3 L ∧ L.cps.toList.Nodup := @decide_eq_true_iff _ (Classical.propDecidable _)
theorem lettersA_no {L : Str} (h : ¬ (Lt.Wd 3 L ∧ L.cps.toList.Nodup)) : lettersA (.dat (.str L)) = false := Bool.eq_false_iff.mpr fun e => h (lettersA_iff.mp e)
theorem signs_nd {L : Str} (h : (Re.Signs L).Nodup) : L.cps.toList.Nodup := by
  unfold Re.Signs at h
  exact (List.pairwise_map.mp h).imp fun q e => q (by rw [e])
theorem lettersA_not {d : PyData} (h : letD d = false) : lettersA (.dat d) = false := by
  cases d with
  | str L => exact lettersA_no fun q => absurd (show letD (.str L) = true from @decide_eq_true _ (Classical.propDecidable _) q.1.ok) (by rw [h]; exact Bool.false_ne_true)
  | _ => rfl
theorem ok_told_words (T : Txt K mg) : FnOk P w K mg base (L2.CX P w) 5 T.f_told_words T.fd_told_words ["book", "letters", "most"] (sp_told_words K T.C_Book (CL T)) := by
  refine T.F_told_words.okX sc_told_words (fun vs H Q E h => ?_) (fun cdv A outer s H vs Q E hr h => ?_)
  · obtain ⟨x, y, z, t, a, d, e, rfl, _⟩ := h
    rfl
  · obtain ⟨x, y, z, t, a, d, e, rfl, ha, hd, sm, he, se, tel⟩ := h
    refine ⟨_, (pss_cons (ps_expr (pe_callS (ok_check_book T) (hr.mono (by decide)) rfl T.g_check_book T.F_check_book.kp T.b_check_book (fun σ => passAt (takes_of rfl rfl rfl rfl) σ) (pa_cons (pv 0) pa_nil)))
  (pss_cons (ps_if (PW.pt (pw_or (pt_not (pt_val (pe_call (ok_is_letters T) (hr.mono (by decide)) rfl T.g_is_letters T.F_is_letters.kp T.b_is_letters .nil pass0 (pa_cons (pv 1) pa_nil)))) (pw_or (pt_not (pt_chain op_le op_le pe_int (pe_callB (id := "len") (r := _) Rd.c_lenS (by rfl) T.n_len (by decide +kernel) (pa_cons (pv 1) pa_nil)) (pe_glob (v := .int 3) rfl T.m_MOST_LETTERS ⟨_, rfl⟩))) (pw_or1 (pt_cmpR op_ne (Re.pe_lenSetA rfl (by rfl) T.n_len (by rfl) T.n_set (pe_callTy (T := "list") (r := Re.rListStr) (Re.cr_listStr rfl) (by rfl) T.n_list (by decide +kernel) (pa_cons (pv 1) pa_nil))) (pe_callB (id := "len") (r := _) Rd.c_lenS (by rfl) T.n_len (by decide +kernel) (pa_cons (pv 1) pa_nil)) (nomark _))))))
  (pss_one (Rx.ps_raise1 rfl T.X_BadLetters T.tI_WayError_init (ok_WayError_init T) (hr.mono (by decide)) T.b_WayError_init rfl T.c_BadLetters (takes_of rfl rfl rfl rfl) (pv 1)))
  pss_nil)
  (pss_cons (ps_if (PW.pt (pw_or (pt_not (pt_val (pe_call (ok_is_integer T) (hr.mono (by decide)) rfl T.g_is_integer T.F_is_integer.kp T.b_is_integer .nil pass0 (pa_cons (pv 2) pa_nil)))) (pw_or1 (pt_not (pt_chain op_le op_le pe_int (pv 2) (pe_glob (v := .int 6) rfl T.m_MOST_SIZE ⟨_, rfl⟩))))))
  (pss_one (Rx.ps_raise1 rfl T.X_BadMost T.tI_WayError_init (ok_WayError_init T) (hr.mono (by decide)) T.b_WayError_init rfl T.c_BadMost (takes_of rfl rfl rfl rfl) (pv 2)))
  pss_nil)
  (pss_cons (ps_set (i := 3) sc_told_words.nd rfl (.inl rfl) (pe_lst pa_nil))
  (pss_cons (ps_set (i := 4) sc_told_words.nd rfl (.inl rfl) (pe_lst (pa_cons pe_str pa_nil)))
  (pss_cons (ps_for (passes_of rfl) rfl (pi_range1 rfl T.n_range (pa_cons (pv 2) pa_nil)) (pg_name (i := 5) sc_told_words.nd rfl (.inl rfl))
  (pss_cons (ps_setLc2 (i := 4) (own := [("word", 6), ("letter", 7)]) (vs1 := [7]) (g := gName 6) (g1 := gName 7) (tt := tYes) (tt1 := tYes) rfl sc_told_words.nd rfl rfl (sw_true rfl rfl rfl (by decide +kernel)) (pi_list (pv 4)) (blkOk_by (own := [("word", 6), ("letter", 7)]) (N := ["book", "letters", "most", "found", "words", "size", "word", "letter"]) (sc := defScope s_told_words) (by decide +kernel)) (by decide) (fun _ _ _ _ _ => (pg_name (i := 6) sc_told_words.nd rfl (.inl rfl))) (fun _ _ _ _ _ => pts_nil) (fun _ _ _ _ _ => (pi_str (pv 1))) (fun _ _ _ _ _ => (pg_name (i := 7) sc_told_words.nd rfl (by first | exact .inl rfl | exact .inr rfl))) (fun _ _ _ _ _ => pts_nil) (fun _ _ _ _ _ => (pe_op Rd.o_addS (pv 6) (pv 7))))
  (pss_one (ps_expr (pe_bm PySem.F.plainAttrs_list PySem.F.slot_list_extend PySem.F.type_list_extend mt_extend (pv 3) (pa_cons (pe_lc (own := [("word", 6)]) (g := gName 6)  rfl sc_told_words.nd (pi_list (pv 4)) (blkOk_by (own := [("word", 6)]) (N := ["book", "letters", "most", "found", "words", "size", "word", "letter"]) (sc := defScope s_told_words) (by decide +kernel)) (fun _ _ _ _ _ => (pg_name (i := 6) sc_told_words.nd rfl (.inl rfl))) (fun _ _ _ _ _ => pts_one (pt_val (pe_call (ok_leads T) (hr.mono (by decide)) rfl T.g_leads T.F_leads.kp T.b_leads .nil pass0 (pa_cons (pe_fld (pv 0) rfl : PE _ _ (tFld K _ _)) (pa_cons (pv 6) pa_nil))))) (fun _ _ _ _ _ => (pv 6))) pa_nil))))))
  (pss_one (ps_ret (pe_call (ok_in_order T) (hr.mono (by decide)) rfl T.g_in_order T.F_in_order.kp T.b_in_order .nil pass0 (pa_cons (pv 3) pa_nil)))))))))), ?_⟩
    cases a with
    | dat d0 =>
      walk_at "rd"
      exact ⟨x, rfl, .inr ⟨ofD T ha.1 ha.2.1, tel.1 0 x rfl⟩⟩
    | bk ws =>
      obtain ⟨b, rfl, hB, Wt⟩ := ha
      walk_at "rd"
      refine ⟨_, rfl, .inl ⟨b, ws, rfl, hB, ?_⟩⟩
      have bad : lettersA (.dat d) = false → ∀ H2, Same H H2 → Rx.RaiseQ T.C_BadLetters y H2 E := fun e H2 s2 => (tel.1 2 y (due_l.trans (if_pos e))).now s2
      have badm : lettersA (.dat d) = true → mostA (.dat e) = false → ∀ H2, Same H H2 → Rx.RaiseQ T.C_BadMost z H2 E := fun e1 e2 H2 s2 => (tel.1 3 z (due_l.trans ((if_neg (by rw [e1]; exact Bool.noConfusion)).trans (if_pos e2)))).now s2
      have good : lettersA (.dat d) = true → mostA (.dat e) = true → Anyo Q H := fun e1 e2 => tel.2 (due_l.trans ((if_neg (by rw [e1]; exact Bool.noConfusion)).trans (if_neg (by rw [e2]; exact Bool.noConfusion))))
      walk_at "rd"
      refine letCall hd sm.1 fun H1 s1 => ?_
      cases q : letD d with
      | false =>
        walk_at "rd"
        exact bad (lettersA_not q) H1 s1
      | true =>
        obtain ⟨L, rfl, hL⟩ := letD_ex q
        cases hd
        have zl : L.length ≤ sizeLine := by have := sm.1.s; rw [sizeLine_eq]; omega
        walk_at "rd"
        refine Rd.lenStr zl ?_
        walk_at "rd"
        by_cases L0 : (1 : Int) ≤ (L.length : Nat)
        · refine Rd.yes L0 ?_
          walk_at "rd"
          by_cases L1 : ((L.length : Nat) : Int) ≤ 3
          · refine Rd.yes L1 ?_
            walk_at "rd"
            refine Re.lenSetA ?_
            walk_at "rd"
            refine Re.listStr zl (Rd.new fun q G nq gq sq => ?_)
            refine ⟨q, _, rfl, .of gq, by rw [signs_len]; omega, ?_⟩
            walk_at "rd"
            refine Rd.lenStr zl ?_
            walk_at "rd"
            by_cases c : Re.cnt (Re.Signs L) (Re.Signs L).length = L.length
            · refine Rd.yes (by rw [c]) ?_
              have nd0 := Re.cnt_dup (xs := Re.Signs L) _ (Nat.le_refl _) (by rw [c, signs_len])
              rw [List.take_length] at nd0
              have nd := signs_nd nd0
              have okL : lettersA (.dat (.str L)) = true := lettersA_iff.mpr ⟨⟨hL, by omega, by omega⟩, nd⟩
              walk_at "rd"
              obtain ⟨kd, ki, _, _, _, _, kn, kx⟩ := dd_is he se.1
              refine ⟨z, kd, rfl, ki.same (s1.trans sq), ?_⟩
              rw [kn]
              by_cases ci : ∃ i, e = .int i
              · obtain ⟨i, rfl⟩ := ci
                cases he
                rw [show (Ri.isIntD (PyData.int i) && !Ri.isBoolD (PyData.int i)) = true from rfl]
                walk_at "rd"
                by_cases m0 : 1 ≤ i
                · refine Rd.yes m0 ?_
                  walk_at "rd"
                  by_cases m1 : i ≤ 6
                  · refine Rd.yes m1 ?_
                    have k := good okL (decide_eq_true ⟨m0, m1⟩)
                    obtain ⟨m, rfl⟩ : ∃ m : Nat, i = (m : Nat) := ⟨i.toNat, by omega⟩
                    replace m0 : 1 ≤ m := by omega
                    replace m1 : m ≤ 6 := by omega
                    replace L0 : 1 ≤ L.length := by omega
                    replace L1 : L.length ≤ 3 := by omega
                    walk_at "rd"
                    refine ⟨Nat.zero_le _, Rd.new fun f G1 nf gf sf => ?_⟩
                    walk_at "go"
                    refine ⟨Nat.le_of_ble_eq_true rfl, Rd.new fun v G2 nv gv sv => ?_⟩
                    have nf0 : H f = none := (s1.trans sq).free nf
                    have fv : f ≠ v := ne_of_none gf nv
                    have s02 : Same H G2 := ((s1.trans sq).trans sf).trans sv
                    have gf2 := sv _ _ gf
                    clear s1 sq sf sv gf nf gq nq
                    walk_at "go"
                    refine Rd.forS ?_
                    walk_at "go"
                    refine ⟨by omega, by omega, ?_⟩
                    obtain ⟨dx, t, hb, ht⟩ := id hB
                    have wl := Wt.l1
                    refine for_range (lo := 0) (n := ((m : Nat) : Int).toNat) (fun i σ H' => ∃ (wa : Addr) (o5 o6 o7 : Option V), σ = [some (.ref b), some (.str L), some (.int (m : Nat)), some (.ref f), some (.ref wa), o5, o6, o7] ∧ Same H H' ∧ H' f = some (.lst ((toldIn ws (allOf L i)).map V.str)) ∧ H' wa = some (.lst ((wordsOf L i).map V.str)) ∧ f ≠ wa)
                      ⟨v, _, _, _, rfl, s02, gf2, gv, fv⟩ ?_ ?_
                    · clear gf2 gv fv s02
                      rintro i _ H2 hi ⟨wa, o5, o6, o7, rfl, s2, gf, gw, ne⟩
                      walk_at "go"
                      refine Re.lc2 ?_
                      walk_at "go"
                      refine ⟨⟨_, .of gw⟩, Re.lc2S walk_list (fun _ s => .of (s _ _ gw)) (fun D j acc Hc => acc = (((wordsOf L i).take j).flatMap fun w => (Re.Signs L).map fun c => w ++ c).map V.str) (fun _ _ _ _ _ => rfl) ?_ ?_⟩
                      · rintro D j x H3 _ acc nD hj hD sm rfl ⟨rfl, hx⟩
                        obtain ⟨w, hw, rfl⟩ := Rd.map_strG hx
                        have wlen := wordsOf_len w (List.mem_of_getElem? hw)
                        walk_at "go"
                        refine ⟨rfl, Rd.tyes ?_⟩
                        walk_at "go"
                        have c3 : 3 ^ i ≤ 3 ^ 6 := Nat.pow_le_pow_right (by decide) (by omega)
                        have c1 := wordsOf_count L1 i
                        have c2 := flat_le L1 ((wordsOf L i).take j)
                        rw [List.length_take] at c2
                        refine Re.innerS walk_str (fun t acc _ => acc = ((((wordsOf L i).take j).flatMap fun w => (Re.Signs L).map fun c => w ++ c) ++ ((Re.Signs L).take t).map fun c => w ++ c).map V.str) ⟨_, hD, sm, by simp⟩ (fun _ _ => trivial) ?_ ?_
                        · rintro t x H4 _ acc ht hD4 sm4 rfl ⟨rfl, c, hc, rfl⟩
                          have hs : (Re.Signs L)[t]? = some ⟨#[c]⟩ := by
                            unfold Re.Signs
                            rw [List.getElem?_map, Array.getElem?_toList, hc]
                            rfl
                          have tl : t < L.length := ht
                          walk_at "go"
                          refine ⟨rfl, Rd.tyes ?_⟩
                          walk_at "go"
                          have one : (⟨#[c]⟩ : Str).length = 1 := rfl
                          refine Rd.addS (by rw [sizeLine_eq]; omega) ?_
                          refine Rd.lcPush hD4 nD sm4 ?_ fun G g off => ?_
                          · rw [List.length_map, List.length_append, List.length_map, List.length_take, sizeLine_eq]
                            omega
                          · rw [Rd.take_snoc hs]
                            simp
                        · rintro acc H4 hD4 sm4 rfl
                          have full : (Re.Signs L).take L.cps.size = Re.Signs L := List.take_of_length_le (by rw [signs_len]; exact Nat.le_refl _)
                          show _ = List.map V.str (((wordsOf L i).take (j + 1)).flatMap _)
                          rw [full, Rd.take_snoc hw, List.flatMap_append]
                          simp
                      · rintro D acc H3 nD hD sm rfl
                        rw [List.length_map, List.take_length] at hD
                        replace hD : H3 D = some (.lst ((wordsOf L (i + 1)).map V.str)) := hD
                        have c3 : 3 ^ (i + 1) ≤ 3 ^ 6 := Nat.pow_le_pow_right (by decide) (by omega)
                        have c1 := wordsOf_count L1 (i + 1)
                        have c0 := allOf_count L1 i (by omega)
                        have s3 := s2.trans sm
                        have gf3 := sm _ _ gf
                        have nDf : f ≠ D := ne_of_none gf nD
                        clear s2 sm gf gw ne nD
                        walk_at "go"
                        refine ⟨⟨_, .of hD⟩, Rd.lcS walk_list (fun _ s => .of (s _ _ hD)) (fun D2 j acc Hc => acc = (toldIn ws ((wordsOf L (i + 1)).take j)).map V.str) (fun _ _ _ _ _ => rfl) ?_ ?_⟩
                        · rintro D2 j x H4 _ acc nD2 hj hD2 sm2 rfl ⟨rfl, hx⟩
                          obtain ⟨w, hw, rfl⟩ := Rd.map_strG hx
                          have wlen := wordsOf_len w (List.mem_of_getElem? hw)
                          have few := told_few ws ((wordsOf L (i + 1)).take j)
                          rw [List.length_take] at few
                          walk_at "go"
                          refine ⟨rfl, ?_⟩
                          walk_at "go"
                          refine Rd.fld (sm2 _ _ (s3 _ _ hb)) T.cl_Book T.na_Book_watches rfl ?_
                          walk_at "go"
                          refine ⟨t, ws, w, rfl, .inr (.of (sm2 _ _ (s3 _ _ ht))), fun W m => ⟨(Wt.ok W m).l0, by have := (Wt.ok W m).l1; omega⟩, by omega, by omega, fun b1 H5 s5 e => ?_⟩
                          walk_at "go"
                          cases b1 with
                          | true =>
                            walk_at "go"
                            refine Rd.lcPush (s5 _ _ hD2) nD2 (sm2.trans s5) (by rw [List.length_map, sizeLine_eq]; omega) fun G g off => ?_
                            rw [told_step hw, told_yes (e.mp rfl), List.map_append]
                            rfl
                          | false =>
                            walk_at "go"
                            refine ⟨_, s5 _ _ hD2, sm2.trans s5, ?_⟩
                            dsimp only
                            rw [told_step hw, told_no (fun q => by simpa using e.mpr q), List.append_nil]
                        · rintro D2 acc H4 nD2 hD2 sm2 rfl
                          rw [List.length_map, List.take_length] at hD2
                          have few2 := told_few ws (wordsOf L (i + 1))
                          have few1 := told_few ws (allOf L i)
                          walk_at "go"
                          refine ⟨f, D2, _, _, rfl, rfl, sm2 _ _ gf3, hD2, by rw [List.length_map, List.length_map, sizeLine_eq]; omega, ?_⟩
                          have off : ∀ b, b ≠ f → upd H4 f (.lst ((toldIn ws (allOf L i)).map V.str ++ (toldIn ws (wordsOf L (i + 1))).map V.str)) b = H4 b := fun b q => upd_ne q
                          have at' : upd H4 f (.lst ((toldIn ws (allOf L i)).map V.str ++ (toldIn ws (wordsOf L (i + 1))).map V.str)) f = some (.lst ((toldIn ws (allOf L i)).map V.str ++ (toldIn ws (wordsOf L (i + 1))).map V.str)) := upd_same
                          generalize upd H4 f (.lst ((toldIn ws (allOf L i)).map V.str ++ (toldIn ws (wordsOf L (i + 1))).map V.str)) = G5 at off at'
                          walk_at "go"
                          refine ⟨D, _, _, _, rfl, Rd.same_off (s3.trans sm2) nf0 off, ?_, by rw [off _ nDf.symm]; exact sm2 _ _ hD, nDf⟩
                          rw [at', ← List.map_append]
                          show some (HO.lst _) = some (.lst ((toldIn ws (allOf L i ++ wordsOf L (i + 1))).map V.str))
                          unfold toldIn
                          rw [List.filter_append]
                    · rintro _ H2 ⟨wa, o5, o6, o7, rfl, s2, gf, gw, ne⟩
                      have cf := told_few ws (allOf L m)
                      walk_at "go"
                      refine ⟨f, _, rfl, .of gf, fun z mz => ?_, fun l H3 s3 nl gl => ?_⟩
                      · have := allOf_len z (List.mem_filter.mp (show z ∈ (allOf L m).filter _ from mz)).1
                        omega
                      · walk_at "go"
                        exact k _ H3 (s2.trans s3)
                  · refine Rd.no m1 ?_
                    walk_at "rd"
                    exact badm okL (decide_eq_false fun h => m1 h.2) _ (s1.trans sq)
                · refine Rd.no m0 ?_
                  walk_at "rd"
                  exact badm okL (decide_eq_false fun h => m0 h.1) _ (s1.trans sq)
              · rw [show (Ri.isIntD e && !Ri.isBoolD e) = false by cases e <;> first | rfl | exact absurd ⟨_, rfl⟩ ci]
                walk_at "rd"
                exact badm okL (by cases e <;> first | rfl | exact absurd ⟨_, rfl⟩ ci) _ (s1.trans sq)
            · refine Rd.no (by omega) ?_
              walk_at "rd"
              exact bad (lettersA_no fun h => c (by rw [Re.cnt_nodup (signs_nodup h.2) _ (Nat.le_refl _), signs_len])) _ (s1.trans sq)
          · refine Rd.no L1 ?_
            walk_at "rd"
            exact bad (lettersA_no fun h => L1 (by have := h.1.l1; omega)) _ s1
        · refine Rd.no L0 ?_
          walk_at "rd"
          exact bad (lettersA_no fun h => L0 (by have := h.1.l0; omega)) _ s1
theorem ok_check_few (T : Txt K mg) : FnOk P w K mg base (L2.CX P w) 5 T.f_check_few T.fd_check_few ["book", "words"] (sp_check_few K T.C_Book (CL T)) := by
  refine T.F_check_few.okX sc_check_few (fun vs H Q E h => ?_) (fun cdv A outer s H vs Q E hr h => ?_)
  · obtain ⟨k, x, y, z, t, a, c, d, rfl, _⟩ := h
    rfl
  · obtain ⟨k, x, y, z, t, a, c, d, rfl, k1, k4, ha, hd, sm, tel⟩ := h
    refine ⟨_, (pss_cons (ps_expr (pe_callS (ok_check_book T) (hr.mono (by decide)) rfl T.g_check_book T.F_check_book.kp T.b_check_book (fun σ => passAt (takes_of rfl rfl rfl rfl) σ) (pa_cons (pv 0) pa_nil)))
  (pss_cons (ps_expr (pe_callS (ok_check_words T) (hr.mono (by decide)) rfl T.g_check_words T.F_check_words.kp T.b_check_words (fun σ => passAt (takes_of rfl rfl rfl rfl) σ) (pa_cons (pv 1) pa_nil)))
  (pss_one (ps_if (pt_cmpR op_gt (pe_callB (id := "len") (r := Rd.nLen K) Rd.c_len (by rfl) T.n_len (by decide +kernel) (pa_cons (pe_fld (pv 0) rfl) pa_nil)) (pe_glob (v := .int 10) rfl T.m_MOST_TRIED ⟨_, rfl⟩) (nomark _))
  (pss_one (Rh.ps_raise0 rfl T.X_TooMany T.tI_WayError_init (ok_WayError_init T) (hr.mono (by decide)) T.b1_WayError_init T.rd_WayError_init rfl T.c_TooMany (takes_of rfl rfl rfl rfl)))
  pss_nil)))), ?_⟩
    cases a with
    | dat d0 =>
      walk_at "rd"
      exact ⟨x, rfl, .inr ⟨ofD T ha.1 ha.2.1, tel.1 0 x rfl⟩⟩
    | bk ws =>
      obtain ⟨b, rfl, hB, W⟩ := ha
      walk_at "rd"
      refine ⟨_, rfl, .inl ⟨b, ws, rfl, hB, ?_⟩⟩
      walk_at "rd"
      refine ⟨y, t, d, rfl, hd, sm, fun i e => tel.1 1 _ (due_w1 k4 e), fun e H1 s1 => ?_⟩
      obtain ⟨dx, tt, hb, ht⟩ := hB.same s1
      walk_at "rd"
      refine Rd.fld hb T.cl_Book T.na_Book_watches rfl ?_
      walk_at "rd"
      refine Rd.len (.inr (.of ht)) ?_
      rw [List.length_map]
      walk_at "rd"
      by_cases c : 10 < ws.length
      · refine Rd.yes (by omega) ?_
        walk_at "rd"
        exact (tel.1 4 .non ((due_w0 k4 e).trans (if_pos ⟨by omega, c⟩))).now s1
      · refine Rd.no (by omega) ?_
        walk_at "rd"
        exact tel.2 ((due_w0 k4 e).trans (if_neg fun q => c q.2)) H1 s1
theorem ok_least_lots (T : Txt K mg) (TB : ∀ p ∈ CS T, LamX.TabB base mg p.1 p.2) : FnOk P w K mg base (L2.CX P w) 6 T.f_least_lots T.fd_least_lots ["book", "words"] (sp_least_lots K T.C_Book (CL T) (TT T)) := by
  refine Rk.okM T.F_least_lots T.cd_least_lots sc_least_lots (fun vs H Q E h => ?_) (fun A outer s H vs Q E hr h => ?_)
  · obtain ⟨x, y, z, t, a, c, d, rfl, _⟩ := h
    rfl
  · obtain ⟨x, y, z, t, a, c, d, rfl, ha, hd, sm, tb, tel⟩ := h
    refine ⟨_, (pss_cons (ps_expr (pe_callS (ok_check_few T) (hr.mono (by decide)) rfl T.g_check_few T.F_check_few.kp T.b_check_few (fun σ => passAt (takes_of rfl rfl rfl rfl) σ) (pa_cons (pv 0) (pa_cons (pv 1) pa_nil))))
  (pss_cons (ps_set (i := 3) sc_least_lots.nd rfl (.inr rfl) (pe_call (ok_ordered_watches T) (hr.mono (by decide)) rfl T.g_ordered_watches T.F_ordered_watches.kp T.b_ordered_watches .nil pass0 (pa_cons (pv 0) pa_nil)))
  (pss_cons (ps_set (i := 2) sc_least_lots.nd rfl (.inl rfl) (Rk.pe_callL (ok_least_masks T) (hr.mono (by decide)) rfl T.g_least_masks T.F_least_masks.kp T.b_least_masks pass0 (Rk.pl_cons (pe_callB (id := "len") (r := Rd.nLen K) Rd.c_len (by rfl) T.n_len (by decide +kernel) (pa_cons (pv 3) pa_nil)) (Rk.pl_lam (T := TT T) (kb := 3) (lp := ["mask"]) (put := Rk.put1 4) (TB _ (.head _)) rfl (.head _) (hu_least_lots T) (Rk.lamP_by (sc := defScope s_least_lots) (by decide +kernel)) rfl rfl (fun _ _ _ _ _ us hl => match us, hl with | [_], _ => rfl) (Rk.hput1 sc_least_lots.nd rfl) (fun A outer s H E fz cz hr => (pe_call (ok_leads_all T) (hr.mono (by decide)) rfl T.g_leads_all T.F_leads_all.kp T.b_leads_all .nil pass0 (pa_cons (pe_call (ok_chosen T) (hr.mono (by decide)) rfl T.g_chosen T.F_chosen.kp T.b_chosen .nil pass0 (pa_cons (pv 3) (pa_cons (pv 4) pa_nil))) (pa_cons (pv 1) pa_nil))))))))
  (pss_one (ps_ret (pe_call (ok_as_lots T) (hr.mono (by decide)) rfl T.g_as_lots T.F_as_lots.kp T.b_as_lots .nil pass0 (pa_cons (pv 3) (pa_cons (pv 2) pa_nil)))))))), ?_⟩
    walk_at "rd"
    refine ⟨1, x, y, z, t, a, c, d, rfl, by decide, by decide, ha, hd, sm, tel.1, fun e0 H1 s1 => ?_⟩
    obtain ⟨ws, rfl, ef, w10⟩ := due_none e0 (by decide) (by decide)
    obtain ⟨b, rfl, hB, L⟩ := ha
    obtain ⟨a, zs, rfl, hZ, z20, hz⟩ := dd_words (K := K) hd ef
    have k : ∀ (l : Addr) H', LamX.ExtN H H' → LamX.Tabs (TT T) H' → LotsAt H' l (leastOf ws zs) → (∀ b o, H b = some o → (∀ ps, o ≠ HO.tbl ps) → b ≠ l) → Q (.ref l) H' := fun l H' e1 t1 _ _ => tel.2 e0 _ _ e1 t1
    walk_at "rd"
    refine ⟨b, ws, rfl, hB.same s1, L, fun l H2 s2 gl => ?_⟩
    walk_at "rd"
    refine Rk.callL (Rk.lcons ?_)
    walk_at "rd"
    refine Rd.len (.inl (.of gl)) ?_
    rw [List.length_map]
    have op := inOrder_perm1 ws
    have ol : (inOrder ws).length = ws.length := op.length_eq
    have s02 := s1.trans s2
    have om : ∀ z ∈ inOrder ws, Lt.Wd 12 z := fun z m => L.ok z (op.mem_iff.mp m)
    refine Rk.llam (tb.ext s02) fun f c H3 C e23 T3 hc hC => ?_
    have gl3 := Rk.lst_ext e23 gl
    have hZ3 := Rk.row_ext e23 (Rk.row_same s02 hZ)
    refine ⟨(inOrder ws).length, f, _, fun m => tellB zs (chs (inOrder ws) m), rfl, hC, by omega, fun m H4 Q1 m2 s4 q1 => ?_, fun p H4 s4 np gp => ?_⟩
    · refine ⟨rfl, s4 _ _ hc, ?_⟩
      have sl := Mb.chs_sublist (inOrder ws) m
      walk_at "rd"
      refine ⟨l, inOrder ws, m, rfl, .of (s4 _ _ gl3), by omega, fun q H5 s5 nq gq => ?_⟩
      walk_at "rd"
      refine ⟨q, a, chs (inOrder ws) m, zs, rfl, .inl (.of gq), fun W mW => ?_, by have := sl.length_le; omega, Rk.row_same (s4.trans s5) hZ3, fun z mz => by have := (hz z mz).l1; omega, by omega, fun v H6 s6 hv => ?_⟩
      · have := om W (sl.subset mW)
        have := this.l0
        have := (om W (sl.subset mW)).l1
        omega
      · have : v = tellB zs (chs (inOrder ws) m) := by rw [Bool.eq_iff_iff, hv, tellB_iff]
        rw [this]
        exact q1 H6 (s5.trans s6)
    · walk_at "rd"
      have fl : (((bySize (inOrder ws).length).filter (leB (fun m => tellB zs (chs (inOrder ws) m)) (inOrder ws).length))).length ≤ 4096 := by
        refine Nat.le_trans (List.length_filter_le _ _) ?_
        rw [bySize_len]
        exact pow12 (by omega)
      refine ⟨l, p, inOrder ws, _, rfl, .of (s4 _ _ gl3), gp, by omega, fun z m => by have := (om z m).l1; omega, by omega, fun r H5 s5 nr hr => ?_⟩
      rw [least_masks_lots L.nd] at hr
      have e5 := Rk.same_ext s02 (Rk.ext_same e23 (s4.trans s5))
      refine k r H5 e5 (T3.ext (s4.trans s5)) hr fun b o e n q => ?_
      subst q
      rw [Rk.same_ext s02 (Rk.ext_same e23 s4) _ _ e n] at nr
      cases nr
theorem ok_unable_lots (T : Txt K mg) (TB : ∀ p ∈ CS T, LamX.TabB base mg p.1 p.2) : FnOk P w K mg base (L2.CX P w) 6 T.f_unable_lots T.fd_unable_lots ["book", "words"] (sp_unable_lots K T.C_Book (CL T) (TT T)) := by
  refine Rk.okM T.F_unable_lots T.cd_unable_lots sc_unable_lots (fun vs H Q E h => ?_) (fun A outer s H vs Q E hr h => ?_)
  · obtain ⟨x, y, z, t, a, c, d, rfl, _⟩ := h
    rfl
  · obtain ⟨x, y, z, t, a, c, d, rfl, ha, hd, sm, tb, tel⟩ := h
    refine ⟨_, (pss_cons (ps_expr (pe_callS (ok_check_few T) (hr.mono (by decide)) rfl T.g_check_few T.F_check_few.kp T.b_check_few (fun σ => passAt (takes_of rfl rfl rfl rfl) σ) (pa_cons (pv 0) (pa_cons (pv 1) pa_nil))))
  (pss_cons (ps_set (i := 3) sc_unable_lots.nd rfl (.inr rfl) (pe_call (ok_ordered_watches T) (hr.mono (by decide)) rfl T.g_ordered_watches T.F_ordered_watches.kp T.b_ordered_watches .nil pass0 (pa_cons (pv 0) pa_nil)))
  (pss_cons (ps_set (i := 2) sc_unable_lots.nd rfl (.inl rfl) (Rk.pe_callL (ok_greatest_masks T) (hr.mono (by decide)) rfl T.g_greatest_masks T.F_greatest_masks.kp T.b_greatest_masks pass0 (Rk.pl_cons (pe_callB (id := "len") (r := Rd.nLen K) Rd.c_len (by rfl) T.n_len (by decide +kernel) (pa_cons (pv 3) pa_nil)) (Rk.pl_lam (T := TT T) (kb := 3) (lp := ["mask"]) (put := Rk.put1 4) (TB _ (.tail _ (.head _))) rfl (.tail _ (.head _)) (hu_unable_lots T) (Rk.lamP_by (sc := defScope s_unable_lots) (by decide +kernel)) rfl rfl (fun _ _ _ _ _ us hl => match us, hl with | [_], _ => rfl) (Rk.hput1 sc_unable_lots.nd rfl) (fun A outer s H E fz cz hr => (pe_call (ok_leads_all T) (hr.mono (by decide)) rfl T.g_leads_all T.F_leads_all.kp T.b_leads_all .nil pass0 (pa_cons (pe_call (ok_chosen T) (hr.mono (by decide)) rfl T.g_chosen T.F_chosen.kp T.b_chosen .nil pass0 (pa_cons (pv 3) (pa_cons (pv 4) pa_nil))) (pa_cons (pv 1) pa_nil))))))))
  (pss_one (ps_ret (pe_call (ok_as_lots T) (hr.mono (by decide)) rfl T.g_as_lots T.F_as_lots.kp T.b_as_lots .nil pass0 (pa_cons (pv 3) (pa_cons (pv 2) pa_nil)))))))), ?_⟩
    walk_at "rd"
    refine ⟨2, x, y, z, t, a, c, d, rfl, by decide, by decide, ha, hd, sm, tel.1, fun e0 H1 s1 => ?_⟩
    obtain ⟨ws, rfl, ef, w10⟩ := due_none e0 (by decide) (by decide)
    obtain ⟨b, rfl, hB, L⟩ := ha
    obtain ⟨a, zs, rfl, hZ, z20, hz⟩ := dd_words (K := K) hd ef
    have k : ∀ (l : Addr) H', LamX.ExtN H H' → LamX.Tabs (TT T) H' → LotsAt H' l (unableOf ws zs) → (∀ b o, H b = some o → (∀ ps, o ≠ HO.tbl ps) → b ≠ l) → Q (.ref l) H' := fun l H' e1 t1 _ _ => tel.2 e0 _ _ e1 t1
    walk_at "rd"
    refine ⟨b, ws, rfl, hB.same s1, L, fun l H2 s2 gl => ?_⟩
    walk_at "rd"
    refine Rk.callL (Rk.lcons ?_)
    walk_at "rd"
    refine Rd.len (.inl (.of gl)) ?_
    rw [List.length_map]
    have op := inOrder_perm1 ws
    have ol : (inOrder ws).length = ws.length := op.length_eq
    have s02 := s1.trans s2
    have om : ∀ z ∈ inOrder ws, Lt.Wd 12 z := fun z m => L.ok z (op.mem_iff.mp m)
    refine Rk.llam (tb.ext s02) fun f c H3 C e23 T3 hc hC => ?_
    have gl3 := Rk.lst_ext e23 gl
    have hZ3 := Rk.row_ext e23 (Rk.row_same s02 hZ)
    refine ⟨(inOrder ws).length, f, _, fun m => tellB zs (chs (inOrder ws) m), rfl, hC, by omega, fun m H4 Q1 m2 s4 q1 => ?_, fun p H4 s4 np gp => ?_⟩
    · refine ⟨rfl, s4 _ _ hc, ?_⟩
      have sl := Mb.chs_sublist (inOrder ws) m
      walk_at "rd"
      refine ⟨l, inOrder ws, m, rfl, .of (s4 _ _ gl3), by omega, fun q H5 s5 nq gq => ?_⟩
      walk_at "rd"
      refine ⟨q, a, chs (inOrder ws) m, zs, rfl, .inl (.of gq), fun W mW => ?_, by have := sl.length_le; omega, Rk.row_same (s4.trans s5) hZ3, fun z mz => by have := (hz z mz).l1; omega, by omega, fun v H6 s6 hv => ?_⟩
      · have := om W (sl.subset mW)
        have := this.l0
        have := (om W (sl.subset mW)).l1
        omega
      · have : v = tellB zs (chs (inOrder ws) m) := by rw [Bool.eq_iff_iff, hv, tellB_iff]
        rw [this]
        exact q1 H6 (s5.trans s6)
    · walk_at "rd"
      have fl : (((bySize (inOrder ws).length).reverse.filter (grB (fun m => tellB zs (chs (inOrder ws) m)) (inOrder ws).length))).length ≤ 4096 := by
        refine Nat.le_trans (List.length_filter_le _ _) ?_
        rw [List.length_reverse, bySize_len]
        exact pow12 (by omega)
      refine ⟨l, p, inOrder ws, _, rfl, .of (s4 _ _ gl3), gp, by omega, fun z m => by have := (om z m).l1; omega, by omega, fun r H5 s5 nr hr => ?_⟩
      rw [great_masks_lots L.nd] at hr
      have e5 := Rk.same_ext s02 (Rk.ext_same e23 (s4.trans s5))
      refine k r H5 e5 (T3.ext (s4.trans s5)) hr fun b o e n q => ?_
      subst q
      rw [Rk.same_ext s02 (Rk.ext_same e23 s4) _ _ e n] at nr
      cases nr
theorem ok_is_least_lot (T : Txt K mg) : FnOk P w K mg base (L2.CX P w) 6 T.f_is_least_lot T.fd_is_least_lot ["book", "words", "thing"] (sp_is_least_lot K T.C_Book (CL T)) := by
  refine T.F_is_least_lot.okX sc_is_least_lot (fun vs H Q E h => ?_) (fun cdv A outer s H vs Q E hr h => ?_)
  · obtain ⟨x, y, z, t, a, c, d, e, rfl, _⟩ := h
    rfl
  · obtain ⟨x, y, z, t, a, c, d1, d, rfl, ha, hd1, sm, hd, few, tel⟩ := h
    refine ⟨_, (pss_cons (ps_expr (pe_callS (ok_check_few T) (hr.mono (by decide)) rfl T.g_check_few T.F_check_few.kp T.b_check_few (fun σ => passAt (takes_of rfl rfl rfl rfl) σ) (pa_cons (pv 0) (pa_cons (pv 1) pa_nil))))
  (pss_cons (ps_if (PW.pt (pw_or (pt_not (pt_val (pe_call (ok_is_sublot T) (hr.mono (by decide)) rfl T.g_is_sublot T.F_is_sublot.kp T.b_is_sublot .nil pass0 (pa_cons (pe_call (ok_ordered_watches T) (hr.mono (by decide)) rfl T.g_ordered_watches T.F_ordered_watches.kp T.b_ordered_watches .nil pass0 (pa_cons (pv 0) pa_nil)) (pa_cons (pv 2) pa_nil))))) (pw_or1 (pt_not (pt_val (pe_call (ok_leads_all T) (hr.mono (by decide)) rfl T.g_leads_all T.F_leads_all.kp T.b_leads_all .nil pass0 (pa_cons (pv 2) (pa_cons (pv 1) pa_nil))))))))
  (pss_one (ps_ret pe_bl))
  pss_nil)
  (pss_one (ps_ret (pe_not (pe_callB (id := "any") (r := rAny K) (cr_any rfl) (by rfl) T.n_any (by decide +kernel) (pa_cons (pe_lc (own := [("watch", 3)]) (g := gName 3) (tt := tYes) rfl sc_is_least_lot.nd (pi_tup (pv 2)) (blkOk_by (own := [("watch", 3)]) (N := ["book", "words", "thing", "watch", "kept"]) (sc := defScope s_is_least_lot) (by decide +kernel)) (fun _ _ _ _ _ => (pg_name (i := 3) sc_is_least_lot.nd rfl (by first | exact .inl rfl | exact .inr rfl))) (fun _ _ _ _ _ => pts_nil) (fun _ _ _ _ _ => (pe_call (ok_leads_all T) (hr.mono (by decide)) rfl T.g_leads_all T.F_leads_all.kp T.b_leads_all .nil pass0 (pa_cons (by exact (pe_lc (own := [("kept", 4)]) (g := gName 4)  rfl sc_is_least_lot.nd (Ry.pi_tupK (K := K) rfl (pv 2)) (blkOk_by (own := [("kept", 4)]) (N := ["book", "words", "thing", "watch", "kept"]) (by rfl)) (fun _ _ _ _ _ => (pg_name (i := 4) sc_is_least_lot.nd rfl (by first | exact .inl rfl | exact .inr rfl))) (fun _ _ _ _ _ => pts_one (pt_cmpR op_ne (pv 4) (pv 3) (nomark _))) (fun _ _ _ _ _ => (pv 4)))) (pa_cons (pv 1) pa_nil))))) pa_nil))))))), ?_⟩
    walk_at "rd"
    refine ⟨3, x, y, z, t, a, c, d1, rfl, by decide, by decide, ha, hd1, sm, tel.1, fun e0 H1 s1 => ?_⟩
    obtain ⟨ws, rfl, ef, w10⟩ := due_none e0 (by decide) (by decide)
    obtain ⟨b, rfl, hB, L⟩ := ha
    obtain ⟨a, zs, rfl, hZ, z20, hz⟩ := dd_words (K := K) hd1 ef
    have k : ∀ H', Same H H' → Q (.bl (leastD ws zs d)) H' := fun H' s' => tel.2 e0 _ _ s'
    have op := inOrder_perm1 ws
    have om : ∀ z ∈ inOrder ws, Lt.Wd 12 z := fun z m => L.ok z (op.mem_iff.mp m)
    have ol := op.length_eq
    have zw : ∀ z ∈ zs, z.length ≤ 1000 := fun z m => by have := (hz z m).l1; omega
    walk_at "rd"
    refine ⟨b, ws, rfl, hB.same s1, L, fun l H2 s2 gl => ?_⟩
    walk_at "rd"
    have s02 := s1.trans s2
    refine ⟨l, z, t, d, inOrder ws, rfl, .of gl, hd.same s02, few, by omega, om, fun H3 s3 => ?_⟩
    cases el : lotOf (inOrder ws) d with
    | none =>
      walk_at "rd"
      have q := k H3 (s02.trans s3)
      unfold leastD at q
      rw [el] at q
      exact q
    | some ys =>
      rw [show Option.isSome (some ys) = true from rfl]
      obtain ⟨rfl, sub⟩ := lotOf_some el
      obtain ⟨p, rfl, nt, hp⟩ := dd_tup hd
      have kk : leastD ws zs (.tuple (ys.map PyData.str)) = leastL (tellB zs) ys := by
        unfold leastD
        rw [el]
      rw [kk] at k
      have yl := sub.length_le
      have yw : ∀ {vs : List Str}, (∀ W ∈ vs, W ∈ ys) → ∀ W ∈ vs, 1 ≤ W.length ∧ W.length ≤ 1000 := fun h W m => by
        have := om W (sub.subset (h W m))
        have h0 := this.l0
        have h1 := this.l1
        omega
      have s03 := s02.trans s3
      walk_at "rd"
      refine ⟨p, a, ys, zs, rfl, .inr (.of (s03 _ _ hp)), yw fun W m => m, by omega, Rk.row_same s03 hZ, zw, by omega, fun v H4 s4 hv => ?_⟩
      have ev : v = tellB zs ys := by rw [Bool.eq_iff_iff, hv, tellB_iff]
      have s04 := s03.trans s4
      cases v with
      | false =>
        walk_at "rd"
        have e : leastL (tellB zs) ys = false := by
          unfold leastL
          rw [← ev]
          rfl
        rw [← e]
        exact k H4 s04
      | true =>
        walk_at "rd"
        refine ⟨⟨_, .of (s04 _ _ hp)⟩, Rd.lcS walk_tup (fun _ s => .of (s _ _ (s04 _ _ hp))) (fun D i acc _ => acc = ((ys.take i).map fun w => tellB zs (ys.filter fun o => decide (o ≠ w))).map V.bl) (fun _ _ _ _ _ => rfl) ?_ ?_⟩
        · rintro D i x G _ acc nD hi hD sm rfl ⟨rfl, hx⟩
          obtain ⟨w, hw, rfl⟩ := Rd.map_strG hx
          rw [List.length_map] at hi
          have hp5 := sm _ _ (s04 _ _ hp)
          walk_at "rd"
          refine ⟨rfl, ?_⟩
          walk_at "rd"
          refine ⟨⟨_, .of hp5⟩, Rd.lcS walk_tup (fun _ s => .of (s _ _ hp5)) (fun D2 j acc _ => acc = ((ys.take j).filter fun o => decide (o ≠ w)).map V.str) (fun _ _ _ _ _ => rfl) ?_ ?_⟩
          · rintro D2 j x G2 _ acc2 nD2 hj hD2 sm2 rfl ⟨rfl, hx2⟩
            obtain ⟨o, ho, rfl⟩ := Rd.map_strG hx2
            rw [List.length_map] at hj
            walk_at "rd"
            refine ⟨rfl, ?_⟩
            walk_at "rd"
            have fl : ((ys.take j).filter fun o => decide (o ≠ w)).length ≤ ys.length := Nat.le_trans (List.length_filter_le _ _) (by rw [List.length_take]; omega)
            by_cases c : o = w
            · refine Rd.yes c ?_
              walk_at "rd"
              refine ⟨_, hD2, sm2, ?_⟩
              show _ = ((ys.take (j + 1)).filter fun o => decide (o ≠ w)).map V.str
              rw [Rd.take_snoc ho, List.filter_append, List.filter_cons_of_neg (by simpa using c), List.filter_nil, List.append_nil]
            · refine Rd.no c ?_
              walk_at "rd"
              refine Rd.lcPush hD2 nD2 sm2 (by rw [List.length_map, sizeLine_eq]; omega) fun G4 _ _ => ?_
              rw [Rd.take_snoc ho, List.filter_append, List.filter_cons_of_pos (by simpa using c), List.map_append]
              rfl
          · rintro D2 acc2 G2 nD2 hD2 sm2 rfl
            rw [List.length_map, List.take_length] at hD2
            walk_at "rd"
            have fl : (ys.filter fun o => decide (o ≠ w)).length ≤ ys.length := List.length_filter_le _ _
            refine ⟨D2, a, _, zs, rfl, .inl (.of hD2), yw fun W m => (List.mem_filter.mp m).1, by omega, Rk.row_same ((s04.trans sm).trans sm2) hZ, zw, by omega, fun u G3 s3 hu => ?_⟩
            have eu : u = tellB zs (ys.filter fun o => decide (o ≠ w)) := by rw [Bool.eq_iff_iff, hu, tellB_iff]
            have s23 := sm2.trans s3
            refine Rd.lcPush (s23 _ _ hD) nD (sm.trans s23) (by rw [List.length_map, List.length_map, List.length_take, sizeLine_eq]; omega) fun G4 _ _ => ?_
            rw [Rd.take_snoc hw, List.map_append, List.map_append, eu]
            rfl
        · rintro D acc G nD hD sm rfl
          rw [List.length_map, List.take_length] at hD
          walk_at "rd"
          refine Rd.any (.of hD) ?_
          walk_at "rd"
          have e : (!(ys.map fun w => tellB zs (ys.filter fun o => decide (o ≠ w))).any id) = leastL (tellB zs) ys := by
            unfold leastL
            rw [← ev, Bool.true_and, List.any_map, List.not_any_eq_all_not]
            rfl
          rw [e]
          exact k G (s04.trans sm)
theorem ok_is_unable_lot (T : Txt K mg) : FnOk P w K mg base (L2.CX P w) 6 T.f_is_unable_lot T.fd_is_unable_lot ["book", "words", "thing"] (sp_is_unable_lot K T.C_Book (CL T)) := by
  refine T.F_is_unable_lot.okX sc_is_unable_lot (fun vs H Q E h => ?_) (fun cdv A outer s H vs Q E hr h => ?_)
  · obtain ⟨x, y, z, t, a, c, d, e, rfl, _⟩ := h
    rfl
  · obtain ⟨x, y, z, t, a, c, d1, d, rfl, ha, hd1, sm, hd, few, tel⟩ := h
    refine ⟨_, (pss_cons (ps_expr (pe_callS (ok_check_few T) (hr.mono (by decide)) rfl T.g_check_few T.F_check_few.kp T.b_check_few (fun σ => passAt (takes_of rfl rfl rfl rfl) σ) (pa_cons (pv 0) (pa_cons (pv 1) pa_nil))))
  (pss_cons (ps_set (i := 3) sc_is_unable_lot.nd rfl (.inl rfl) (pe_call (ok_ordered_watches T) (hr.mono (by decide)) rfl T.g_ordered_watches T.F_ordered_watches.kp T.b_ordered_watches .nil pass0 (pa_cons (pv 0) pa_nil)))
  (pss_cons (ps_if (PW.pt (pw_or (pt_not (pt_val (pe_call (ok_is_sublot T) (hr.mono (by decide)) rfl T.g_is_sublot T.F_is_sublot.kp T.b_is_sublot .nil pass0 (pa_cons (pv 3) (pa_cons (pv 2) pa_nil))))) (pw_or1 (pt_val (pe_call (ok_leads_all T) (hr.mono (by decide)) rfl T.g_leads_all T.F_leads_all.kp T.b_leads_all .nil pass0 (pa_cons (pv 2) (pa_cons (pv 1) pa_nil)))))))
  (pss_one (ps_ret pe_bl))
  pss_nil)
  (pss_one (ps_ret (pe_callB (id := "all") (r := rAll K) (cr_all rfl) (by rfl) T.n_all (by decide +kernel) (pa_cons (pe_lc (own := [("watch", 4)]) (g := gName 4)  rfl sc_is_unable_lot.nd (pi_list (pv 3)) (blkOk_by (own := [("watch", 4)]) (N := ["book", "words", "thing", "things", "watch"]) (sc := defScope s_is_unable_lot) (by decide +kernel)) (fun _ _ _ _ _ => (pg_name (i := 4) sc_is_unable_lot.nd rfl (.inl rfl))) (fun _ _ _ _ _ => pts_one (pt_cmpR (r := rIn K true) op_notIn_seq (pv 4) (pv 2) (by rfl))) (fun _ _ _ _ _ => (pe_call (ok_leads_all T) (hr.mono (by decide)) rfl T.g_leads_all T.F_leads_all.kp T.b_leads_all .nil pass0 (pa_cons (pe_op (r := rCatA K) op_catA (pv 2) (pe_tup (pa_cons (pv 4) pa_nil))) (pa_cons (pv 1) pa_nil))))) pa_nil))))))), ?_⟩
    walk_at "rd"
    refine ⟨4, x, y, z, t, a, c, d1, rfl, by decide, by decide, ha, hd1, sm, tel.1, fun e0 H1 s1 => ?_⟩
    obtain ⟨ws, rfl, ef, w10⟩ := due_none e0 (by decide) (by decide)
    obtain ⟨b, rfl, hB, L⟩ := ha
    obtain ⟨a, zs, rfl, hZ, z20, hz⟩ := dd_words (K := K) hd1 ef
    have k : ∀ H', Same H H' → Q (.bl (unableD ws zs d)) H' := fun H' s' => tel.2 e0 _ _ s'
    have op := inOrder_perm1 ws
    have om : ∀ z ∈ inOrder ws, Lt.Wd 12 z := fun z m => L.ok z (op.mem_iff.mp m)
    have ol := op.length_eq
    have zw : ∀ z ∈ zs, z.length ≤ 1000 := fun z m => by have := (hz z m).l1; omega
    walk_at "rd"
    refine ⟨b, ws, rfl, hB.same s1, L, fun l H2 s2 gl => ?_⟩
    walk_at "rd"
    have s02 := s1.trans s2
    refine ⟨l, z, t, d, inOrder ws, rfl, .of gl, hd.same s02, few, by omega, om, fun H3 s3 => ?_⟩
    cases el : lotOf (inOrder ws) d with
    | none =>
      walk_at "rd"
      have q := k H3 (s02.trans s3)
      unfold unableD at q
      rw [el] at q
      exact q
    | some ys =>
      rw [show Option.isSome (some ys) = true from rfl]
      obtain ⟨rfl, sub⟩ := lotOf_some el
      obtain ⟨p, rfl, nt, hp⟩ := dd_tup hd
      have kk : unableD ws zs (.tuple (ys.map PyData.str)) = unableL (tellB zs) (inOrder ws) ys := by
        unfold unableD
        rw [el]
      rw [kk] at k
      have yl := sub.length_le
      have yw : ∀ {vs : List Str}, (∀ W ∈ vs, W ∈ inOrder ws) → ∀ W ∈ vs, 1 ≤ W.length ∧ W.length ≤ 1000 := fun h W m => by
        have := om W (h W m)
        have h0 := this.l0
        have h1 := this.l1
        omega
      have s03 := s02.trans s3
      walk_at "rd"
      refine ⟨p, a, ys, zs, rfl, .inr (.of (s03 _ _ hp)), yw fun W m => sub.subset m, by omega, Rk.row_same s03 hZ, zw, by omega, fun v H4 s4 hv => ?_⟩
      have ev : v = tellB zs ys := by rw [Bool.eq_iff_iff, hv, tellB_iff]
      have s04 := s03.trans s4
      have s24 := s3.trans s4
      cases v with
      | true =>
        walk_at "rd"
        have e : unableL (tellB zs) (inOrder ws) ys = false := by
          unfold unableL
          rw [← ev]
          rfl
        rw [← e]
        exact k H4 s04
      | false =>
        walk_at "rd"
        have gl4 := s24 _ _ gl
        refine ⟨⟨_, .of gl4⟩, Rd.lcS walk_list (fun _ s => .of (s _ _ gl4)) (fun D i acc _ => acc = ((((inOrder ws).take i).filter fun w => decide (w ∉ ys)).map fun w => tellB zs (ys ++ [w])).map V.bl) (fun _ _ _ _ _ => rfl) ?_ ?_⟩
        · rintro D i x G _ acc nD hi hD sm rfl ⟨rfl, hx⟩
          obtain ⟨w, hw, rfl⟩ := Rd.map_strG hx
          rw [List.length_map] at hi
          have hp5 := sm _ _ (s04 _ _ hp)
          have fl : ((((inOrder ws).take i).filter fun w => decide (w ∉ ys))).length ≤ (inOrder ws).length := Nat.le_trans (List.length_filter_le _ _) (by rw [List.length_take]; omega)
          walk_at "rd"
          refine ⟨rfl, ?_⟩
          walk_at "rd"
          refine Rd.inStrsN (ws := ys) (.inr (.of hp5)) ?_
          by_cases c : w ∈ ys
          · rw [decide_eq_true c]
            walk_at "rd"
            refine ⟨_, hD, sm, ?_⟩
            show _ = ((((inOrder ws).take (i + 1)).filter fun w => decide (w ∉ ys)).map fun w => tellB zs (ys ++ [w])).map V.bl
            rw [Rd.take_snoc hw, List.filter_append, List.filter_cons_of_neg (by simpa using c), List.filter_nil, List.append_nil]
          · rw [decide_eq_false c]
            walk_at "rd"
            refine ⟨Nat.le_of_ble_eq_true rfl, Rd.new fun q G2 nq gq s5 => ?_⟩
            refine Rk.catA (.of (s5 _ _ hp5)) (.of gq) (fun e => nomatch e) (by rw [List.length_map, sizeLine_eq, List.length_singleton]; omega) fun r G3 s6 gr => ?_
            have s56 := s5.trans s6
            walk_at "rd"
            have er : ys.map V.str ++ [V.str w] = (ys ++ [w]).map V.str := by rw [List.map_append]; rfl
            rw [er] at gr
            refine ⟨r, a, ys ++ [w], zs, rfl, .inr gr, yw fun W m => ?_, by rw [List.length_append, List.length_singleton]; omega, Rk.row_same ((s04.trans sm).trans s56) hZ, zw, by omega, fun u G4 s7 hu => ?_⟩
            · rcases List.mem_append.mp m with m | m
              · exact sub.subset m
              · rw [List.mem_singleton.mp m]
                exact List.mem_of_getElem? hw
            have eu : u = tellB zs (ys ++ [w]) := by rw [Bool.eq_iff_iff, hu, tellB_iff]
            have s57 := s56.trans s7
            refine Rd.lcPush (s57 _ _ hD) nD (sm.trans s57) (by rw [List.length_map, List.length_map, sizeLine_eq]; omega) fun G5 _ _ => ?_
            rw [Rd.take_snoc hw, List.filter_append, List.filter_cons_of_pos (by simpa using c), List.map_append, List.map_append, eu]
            rfl
        · rintro D acc G nD hD sm rfl
          rw [List.length_map, List.take_length] at hD
          walk_at "rd"
          refine Rd.all (.of hD) ?_
          have e : ((((inOrder ws).filter fun w => decide (w ∉ ys)).map fun w => tellB zs (ys ++ [w])).all id) = unableL (tellB zs) (inOrder ws) ys := by
            unfold unableL
            rw [← ev, Bool.not_false, Bool.true_and, List.all_map, List.all_filter]
            congr 1
            funext w
            by_cases c : w ∈ ys
            · simp [c]
            · simp [c]
          rw [e]
          exact k G (s04.trans sm)

end
end W

namespace W
open PySem PySem.Spec PyProof.Rows L2
section
variable {P : Program} {w : World} {K : PySem.W.Frag} {mg : Str → Option Value} {base : Heap}
/-! ### a text many times -/
theorem mulF_app : ∀ (l : List (Array Nat)) (a : Array Nat), (l.foldl (· ++ ·) a).toList = a.toList ++ (l.map Array.toList).flatten
  | [], a => by simp
  | x :: l, a => by rw [List.foldl_cons, mulF_app l, Array.toList_append, List.map_cons, List.flatten_cons, List.append_assoc]
theorem mul_l (y : Str) (n : Nat) : (Txt.mul y (n : Int)).cps.toList = (List.replicate n y.cps.toList).flatten := by
  unfold Txt.mul
  split
  · rw [show n = 0 by omega]
    rfl
  · split
    · rename_i h1 h2
      rcases (Bool.or_eq_true _ _).mp h2 with e | e
      · rw [show n = 1 by have : (n : Int) = 1 := by simpa using e
                          omega]
        simp
      · have e' : y.length = 0 := by simpa using e
        have e3 : y.cps.toList = [] := List.length_eq_zero_iff.mp (by rw [Array.length_toList]; exact e')
        rw [e3]
        simp
    · show ((List.replicate (n : Int).toNat y.cps).foldl (· ++ ·) #[]).toList = _
      rw [mulF_app, Int.toNat_natCast, List.map_replicate]
      rfl
theorem mul_ln (y : Str) (n : Nat) : (Txt.mul y (n : Int)).length = n * y.length := by
  have h : (Txt.mul y (n : Int)).cps.toList.length = (Txt.mul y (n : Int)).length := Array.length_toList
  have hy : y.cps.toList.length = y.length := Array.length_toList
  rw [← h, mul_l, ← hy]
  simp
theorem mul_mem {y : Str} {n c : Nat} (m : c ∈ (Txt.mul y (n : Int)).cps.toList) : c ∈ y.cps.toList := by
  rw [mul_l] at m
  obtain ⟨l, hl, hc⟩ := List.mem_flatten.mp m
  rw [(List.mem_replicate.mp hl).2] at hc
  exact hc
theorem mul_ok {y : Str} {n : Nat} (h : y.length ≤ 1000) (hn : n ≤ 1000) : MulOk y (n : Int) := by
  refine ⟨?_, fun h1 _ q => ?_, fun _ _ => ?_⟩
  · rw [Bool.or_eq_false_iff]
    exact ⟨decide_eq_false (by omega), decide_eq_false (by omega)⟩
  · have : (y.length : Int) ≤ (2 ^ 63 - 1) / (n : Int) := by
      rw [Int.le_ediv_iff_mul_le (by omega)]
      have : y.length * n ≤ 1000 * 1000 := Nat.mul_le_mul h hn
      have e : ((y.length : Int) * (n : Int)) = ((y.length * n : Nat) : Int) := by rw [Int.natCast_mul]
      rw [e]
      omega
    omega
  · have : y.length * n ≤ 1000 * 1000 := Nat.mul_le_mul h hn
    show decide (y.length * (n : Int).toNat > sizeLine) = false
    rw [Int.toNat_natCast]
    exact decide_eq_false (by rw [sizeLine_eq]; omega)

end
end W

namespace W
open PySem PySem.Spec PyProof.Rows L2
section
variable {P : Program} {w : World} {K : PySem.W.Frag} {mg : Str → Option Value} {base : Heap}
/-! ### what is asked, tried and due -/
def nm : Nat → Str
  | 0 => "book"
  | 1 => "words"
  | 2 => "letters"
  | 3 => "most"
  | _ => "many"
def DuAt (H : Hp) (p : Addr) : Option (Nat × V) → Prop
  | none => H p = some (.tup [.str "told", .non])
  | some (n, v) => ∃ l, H p = some (.tup [.ref l, v]) ∧ H l = some (.lst [.str (nm n)])
theorem DuAt.ext {H H' : Hp} {p : Addr} (e : LamX.ExtN H H') : ∀ {o : Option (Nat × V)}, DuAt H p o → DuAt H' p o
  | none, h => Rk.tp_ext e h
  | some (n, v), ⟨l, g, h⟩ => ⟨l, Rk.tp_ext e g, Rk.lst_ext e h⟩
theorem duAt_eq {H : Hp} {p : Addr} {o o' : Option (Nat × V)} (e : o = o') (h : DuAt H p o') : DuAt H p o := by rw [e]; exact h
/-- what may be handed in -/
structure Cnd (kind : Int) (b c : Ar) : Prop where
  k0 : 0 ≤ kind
  k8 : kind ≤ 8
  w : kind ≤ 4 ∨ kind = 8 → ∃ d, b = .dat d
  m : ∃ e, c = .dat e ∧ Few e
theorem ArAt.ext {C t : Addr} {H H' : Hp} {x : V} (e : Rd.But t H H') (ht : ∃ xs, H t = some (.lst xs)) : ∀ {a : Ar}, ArAt C H t x a → ArAt C H' t x a
  | .dat d, h => ⟨h.1.but e, h.2⟩
  | .bk ws, ⟨b, q, ⟨dx, tt, h1, h2⟩, w⟩ => by
    obtain ⟨xs, ht⟩ := ht
    exact ⟨b, q, ⟨dx, tt, e _ _ (fun z => by rw [z, ht] at h1; cases h1) h1, e _ _ (fun z => by rw [z, ht] at h2; cases h2) h2⟩, w⟩
def optI : Option Int → V
  | none => .non
  | some i => .int i
def sp_l_is_word (K : PySem.W.Frag) : Sp := fun vs H Q _ => ∃ (x : V) (t : Addr) (d : PyData) (m : Nat), vs = [x, .int (m : Nat)] ∧ Ri.Dd H t x d ∧ SmI d ∧ m ≤ 1000 ∧ Q (.bl (wdD m d)) H
def sp_l_fault (K : PySem.W.Frag) : Sp := fun vs H Q _ => ∃ (x : V) (t : Addr) (d : PyData), vs = [x] ∧ Ri.Dd H t x d ∧ SmD d ∧ ∀ H', Same H H' → Q (optI (faultD d)) H'
def sp_l_good_letters (K : PySem.W.Frag) : Sp := fun vs H Q _ => ∃ (x : V) (t : Addr) (d : PyData), vs = [x] ∧ Ri.Dd H t x d ∧ SmI d ∧ Q (.bl (lettersA (.dat d))) H
def sp_l_asked (K : PySem.W.Frag) (C : Addr) (cls : Nat → Addr) (tt : List (Addr × Str)) : Sp := fun vs H Q E => ∃ (kind : Int) (x y z : V) (t : Addr) (a b c : Ar), vs = [.int kind, x, y, z] ∧ ArAt C H t x a ∧ ArAt C H t y b ∧ ArAt C H t z c ∧ Cnd kind b c ∧ LamX.Tabs tt H ∧ Tel (dueOf kind x a y b z c) cls H E (AnyN tt Q H)
def sp_l_tried (K : PySem.W.Frag) (C : Addr) (tt : List (Addr × Str)) : Sp := fun vs H Q _ => ∃ (kind : Int) (x y z : V) (t : Addr) (a b c : Ar), vs = [.int kind, x, y, z] ∧ ArAt C H t x a ∧ ArAt C H t y b ∧ ArAt C H t z c ∧ Cnd kind b c ∧ LamX.Tabs tt H ∧
  ∀ p H', LamX.ExtN H H' → LamX.Tabs tt H' → DuAt H' p (dueOf kind x a y b z c) → Q (.ref p) H'
def sp_l_due (K : PySem.W.Frag) (C : Addr) : Sp := fun vs H Q _ => ∃ (kind : Int) (x y z : V) (t : Addr) (a b c : Ar), vs = [.int kind, x, y, z] ∧ ArAt C H t x a ∧ ArAt C H t y b ∧ ArAt C H t z c ∧ Cnd kind b c ∧
  ∀ p H', Same H H' → DuAt H' p (dueOf kind x a y b z c) → Q (.ref p) H'
theorem wdD_no {m : Nat} {z : Str} (h : ¬ Lt.Wd m z) : wdD m (.str z) = false := @decide_eq_false _ (Classical.propDecidable _) h
theorem wdD_yes {m : Nat} {z : Str} (h : Lt.Wd m z) : wdD m (.str z) = true := @decide_eq_true _ (Classical.propDecidable _) h
theorem ok_l_is_word (T : Txt K mg) : FnOk P w K mg base CX0 1 T.f_l_is_word T.fd_l_is_word ["_law_thing", "_law_most"] (sp_l_is_word K) := by
  refine T.F_l_is_word.ok sc_l_is_word (fun vs H Q E h => ?_) (fun cdv A outer s H vs Q E hr h => ?_)
  · obtain ⟨x, t, d, m, rfl, _⟩ := h
    rfl
  · obtain ⟨x, t, d, m, rfl, hd, sm, m1, k⟩ := h
    refine ⟨_, (pss_cons (ps_if (PW.pt (pw_or (pt_not (pt_val (pe_callB (id := "isinstance") (r := rIsi K) call_isi (by rfl) T.n_isinstance (by decide +kernel) (pa_cons (pv 0) (pa_cons (pe_bltn (v := .ty "str") (u := .type "str") (by rfl) T.n_str (by decide +kernel) rfl) pa_nil))))) (pw_or (pt_cmpR op_lt (pe_callB (id := "len") (r := _) Rd.c_lenS (by rfl) T.n_len (by decide +kernel) (pa_cons (pv 0) pa_nil)) pe_int (nomark _)) (pw_or1 (pt_cmpR op_gt (pe_callB (id := "len") (r := _) Rd.c_lenS (by rfl) T.n_len (by decide +kernel) (pa_cons (pv 0) pa_nil)) (pv 1) (nomark _))))))
  (pss_one (ps_ret pe_bl))
  pss_nil)
  (pss_cons (ps_for PassesOwn.never rfl (pi_str (pv 0)) (pg_name (i := 2) sc_l_is_word.nd rfl (.inl rfl))
  (pss_one (ps_if (pt_cmpR op_notIn_sign (pv 2) pe_str rfl)
  (pss_one (ps_ret pe_bl))
  pss_nil)))
  (pss_one (ps_ret pe_bl)))), ?_⟩
    walk_at "rd"
    refine Ri.askStr hd ?_
    by_cases st : Ri.isStrD d = true
    · cases hd with
      | str z =>
        rw [st]
        walk_at "rd"
        have zs : z.length ≤ sizeLine := by have := sm.s; rw [sizeLine_eq]; omega
        refine Rd.lenStr zs ?_
        walk_at "rd"
        refine ite2 (fun c1 => ?_) (fun c1 => ?_)
        · walk_at "rd"
          have k := k
          rw [wdD_no fun h => by have := h.l0; omega] at k
          exact k
        walk_at "rd"
        refine Rd.lenStr zs ?_
        walk_at "rd"
        refine ite2 (fun c2 => ?_) (fun c2 => ?_)
        · walk_at "rd"
          have k := k
          rw [wdD_no fun h => by have := h.l1; omega] at k
          exact k
        walk_at "rd"
        refine Rd.forS ?_
        walk_at "rd"
        refine for_it walk_str (fun i σ H' => ∃ (o : Option V), σ = [some (.str z), some (.int (m : Nat)), o] ∧ H' = H ∧ ∀ c ∈ z.cps.toList.take i, c ∈ Lt.Abc.cps.toList)
          ⟨_, rfl, rfl, fun c m => by simp at m⟩ (fun _ _ _ _ _ => trivial) ?_ ?_
        · rintro i x _ H1 _ hi ⟨o, rfl, rfl, hl⟩ ⟨rfl, c, hc, rfl⟩
          have hc' : z.cps.toList[i]? = some c := by rw [Array.getElem?_toList]; exact hc
          walk_at "rd"
          refine ⟨_, _, rfl, rfl, _, rfl, ?_⟩
          by_cases mm : c ∈ Lt.Abc.cps.toList
          · rw [decide_eq_true (show c ∈ ("abcdefghijklmnopqrstuvwxyz" : Str).cps.toList from mm)]
            walk_at "rd"
            refine ⟨_, rfl, rfl, ?_⟩
            rw [Rd.take_snoc hc']
            intro d md
            rcases List.mem_append.mp md with md | md
            · exact hl d md
            · cases List.mem_singleton.mp md
              exact mm
          · rw [decide_eq_false (show ¬ c ∈ ("abcdefghijklmnopqrstuvwxyz" : Str).cps.toList from mm)]
            walk_at "rd"
            have k := k
            rw [wdD_no fun h => mm (h.ok c (List.mem_of_getElem? hc'))] at k
            exact k
        · rintro _ H1 ⟨o, rfl, rfl, hl⟩
          have e : z.cps.toList.take z.cps.size = z.cps.toList := List.take_of_length_le (by rw [Array.length_toList]; exact Nat.le_refl _)
          rw [e] at hl
          walk_at "rd"
          have k := k
          rw [wdD_yes ⟨hl, by omega, by omega⟩] at k
          exact k
      | _ => cases st
    · rw [Bool.not_eq_true] at st
      rw [st]
      walk_at "rd"
      rw [show wdD m d = false by cases d <;> first | rfl | cases st] at k
      exact k
theorem ok_l_fault (T : Txt K mg) : FnOk P w K mg base CX0 2 T.f_l_fault T.fd_l_fault ["_law_words"] (sp_l_fault K) := by
  refine T.F_l_fault.ok sc_l_fault (fun vs H Q E h => ?_) (fun cdv A outer s H vs Q E hr h => ?_)
  · obtain ⟨x, t, d, rfl, _⟩ := h
    rfl
  · obtain ⟨x, t, d, rfl, hd, sm, k⟩ := h
    refine ⟨_, (pss_cons (ps_if (PW.pt (pw_or (pt_not (pt_val (pe_callB (id := "isinstance") (r := rIsiT K) call_isiT (by rfl) T.n_isinstance (by decide +kernel) (pa_cons (pv 0) (pa_cons (pe_tup (pa_cons (pe_bltn (v := .ty "list") (u := .type "list") (by rfl) T.n_list (by decide +kernel) rfl) (pa_cons (pe_bltn (v := .ty "tuple") (u := .type "tuple") (by rfl) T.n_tuple (by decide +kernel) rfl) pa_nil))) pa_nil))))) (pw_or1 (pt_cmpR op_gt (pe_callB (id := "len") (r := Rd.nLen K) Rd.c_len (by rfl) T.n_len (by decide +kernel) (pa_cons (pv 0) pa_nil)) pe_int (nomark _)))))
  (pss_one (ps_ret (pe_un un_neg pe_int)))
  pss_nil)
  (pss_cons (ps_for PassesOwn.never rfl (pi_range1 rfl T.n_range (pa_cons (pe_callB (id := "len") (r := Rd.nLen K) Rd.c_len (by rfl) T.n_len (by decide +kernel) (pa_cons (pv 0) pa_nil)) pa_nil)) (pg_name (i := 1) sc_l_fault.nd rfl (.inl rfl))
  (pss_one (ps_if (pt_not (pt_val (pe_call (ok_l_is_word T) (hr.mono (by decide)) rfl T.g_l_is_word T.F_l_is_word.kp T.b_l_is_word .nil pass0 (pa_cons (pe_ix (r := fun x y H Q => rIxL K x y H Q ∨ rIxT K x y H Q) (IxR.or ix_list ix_tup) (pv 0) (pv 1) (fun _ _ => rfl)) (pa_cons pe_int pa_nil)))))
  (pss_one (ps_ret (pv 1)))
  pss_nil)))
  (pss_one (ps_ret pe_non)))), ?_⟩
    walk_at "rd"
    refine ⟨Nat.le_of_ble_eq_true rfl, Rd.new fun p G hp gp sG => ?_⟩
    walk_at "rd"
    obtain ⟨kd, ki, ks, _⟩ := dd_is hd sm.1
    refine Rx.askSeq gp (ki.same sG) ?_
    cases hi : itemsD d with
    | none =>
      rw [ks, hi, Option.isSome_none]
      walk_at "rd"
      have k := k G sG
      rw [show faultD d = some (-1) by unfold faultD; rw [hi]] at k
      exact k
    | some ds =>
      rw [ks, hi, Option.isSome_some]
      obtain ⟨a, xs, rfl, hS, all⟩ := dd_items (K := K) hd hi
      have len := all.len
      walk_at "rd"
      refine Rd.len (hS.same sG) ?_
      rw [len]
      walk_at "rd"
      by_cases c : 20 < ds.length
      · refine Rd.yes (by omega) ?_
        walk_at "rd"
        have k := k G sG
        rw [show faultD d = some (-1) by unfold faultD; rw [hi]; exact if_pos c] at k
        exact k
      · refine Rd.no (by omega) ?_
        have ef : faultD d = (firstD ds).map fun i => ((i : Nat) : Int) := by unfold faultD; rw [hi]; exact if_neg c
        walk_at "rd"
        refine Rd.forS ?_
        walk_at "rd"
        refine Rd.len (hS.same sG) ?_
        rw [len]
        walk_at "rd"
        refine ⟨by omega, by omega, ?_⟩
        refine for_range (lo := 0) (n := ds.length) (fun i σ H' => ∃ o, σ = [some (.ref a), o] ∧ Same H H' ∧ ∀ e ∈ ds.take i, wdD 40 e = true) ⟨_, rfl, sG, fun e m => by simp at m⟩ ?_ ?_
        · rintro i _ H1 hi2 ⟨o, rfl, s1, oks⟩
          have he := List.getElem?_eq_getElem hi2
          obtain ⟨x, hx, de⟩ := all.get' he
          walk_at "rd"
          refine (hS.same s1).imp (fun h => Rd.ixL h (Rd.atI_of (by omega) (by rw [show (0 + (i : Int)).toNat = i by omega]; exact hx)) ?_) (fun h => Rd.ixT h (Rd.atI_of (by omega) (by rw [show (0 + (i : Int)).toNat = i by omega]; exact hx)) ?_) <;>
          · walk_at "rd"
            refine ⟨x, t, ds[i], 40, rfl, de.same s1, sm.2 ds hi _ (List.getElem_mem hi2), by decide, ?_⟩
            cases q : wdD 40 ds[i] with
            | false =>
              walk_at "rd"
              have k := k H1 s1
              rw [ef, firstD_at oks he q] at k
              rw [show (0 + (i : Int)) = ((i : Nat) : Int) by omega]
              exact k
            | true =>
              walk_at "rd"
              refine ⟨_, rfl, s1, fun y m => ?_⟩
              rw [Rd.take_snoc he] at m
              rcases List.mem_append.mp m with m | m
              · exact oks y m
              · rw [List.mem_singleton.mp m]
                exact q
        · rintro _ H1 ⟨o, rfl, s1, oks⟩
          rw [List.take_length] at oks
          walk_at "rd"
          have k := k H1 s1
          rw [ef, firstD_none oks] at k
          exact k
theorem cut_take {z : Str} {i : Nat} (h : i ≤ z.length) : (cutS z none (some (i : Int))).cps.toList = z.cps.toList.take i := by
  show ((z.cps.toList.drop (HT.sIx z.length 0 none)).take (HT.sIx z.length z.length (some (i : Int)) - HT.sIx z.length 0 none)).toArray.toList = _
  have e1 : HT.sIx z.length z.length (some (i : Int)) = min i z.length := HT.sIx_nat z.length z.length i
  have e2 : HT.sIx z.length 0 none = 0 := rfl
  rw [List.toList_toArray, e1, e2, List.drop_zero, Nat.sub_zero, Nat.min_eq_left h]
theorem ok_l_good_letters (T : Txt K mg) : FnOk P w K mg base CX0 2 T.f_l_good_letters T.fd_l_good_letters ["_law_thing"] (sp_l_good_letters K) := by
  refine T.F_l_good_letters.ok sc_l_good_letters (fun vs H Q E h => ?_) (fun cdv A outer s H vs Q E hr h => ?_)
  · obtain ⟨x, t, d, rfl, _⟩ := h
    rfl
  · obtain ⟨x, t, d, rfl, hd, sm, k⟩ := h
    refine ⟨_, (pss_cons (ps_if (pt_not (pt_val (pe_call (ok_l_is_word T) (hr.mono (by decide)) rfl T.g_l_is_word T.F_l_is_word.kp T.b_l_is_word .nil pass0 (pa_cons (pv 0) (pa_cons pe_int pa_nil)))))
  (pss_one (ps_ret pe_bl))
  pss_nil)
  (pss_cons (ps_for PassesOwn.never rfl (pi_range1 rfl T.n_range (pa_cons (pe_callB (id := "len") (r := _) Rd.c_lenS (by rfl) T.n_len (by decide +kernel) (pa_cons (pv 0) pa_nil)) pa_nil)) (pg_name (i := 1) sc_l_good_letters.nd rfl (.inl rfl))
  (pss_one (ps_if (pt_cmpR Rd.o_inC (pe_ix ix_str (pv 0) (pv 1) (fun _ _ => rfl)) (pe_slice sl_str (pv 0) po_none (po_some (pv 1))) rfl)
  (pss_one (ps_ret pe_bl))
  pss_nil)))
  (pss_one (ps_ret pe_bl)))), ?_⟩
    walk_at "rd"
    refine ⟨x, t, d, 3, rfl, hd, sm, by decide, ?_⟩
    cases q : wdD 3 d with
    | false =>
      walk_at "rd"
      rw [show lettersA (.dat d) = false from by
        cases d with
        | str z => exact lettersA_no fun h => absurd (wdD_yes h.1) (by rw [q]; exact Bool.false_ne_true)
        | _ => rfl] at k
      exact k
    | true =>
      obtain ⟨z, rfl, hz⟩ : ∃ z, d = .str z ∧ Lt.Wd 3 z := by
        cases d with
        | str z => exact ⟨z, rfl, @of_decide_eq_true _ (Classical.propDecidable _) q⟩
        | _ => cases q
      cases hd
      have zl : z.length ≤ sizeLine := by have := hz.l1; rw [sizeLine_eq]; omega
      walk_at "rd"
      refine Rd.forS ?_
      walk_at "rd"
      refine Rd.lenStr zl ?_
      walk_at "rd"
      refine ⟨by omega, by have := hz.l1; omega, ?_⟩
      refine for_range (lo := 0) (n := z.length) (fun i σ H' => ∃ o, σ = [some (.str z), o] ∧ H' = H ∧ (z.cps.toList.take i).Nodup) ⟨_, rfl, rfl, by simp⟩ ?_ ?_
      · rintro i _ H1 hi ⟨o, rfl, rfl, nd⟩
        have hc : z.cps.toList[i]? = some z.cps[i] := by rw [Array.getElem?_toList]; exact Array.getElem?_eq_getElem hi
        walk_at "rd"
        refine Rd.ixS zl (Rd.atI_of (by omega) (by rw [show (0 + (i : Int)).toNat = i by omega]; exact hc)) ?_
        walk_at "rd"
        refine Rd.slS zl ?_
        walk_at "rd"
        refine Rd.inC ?_
        rw [show (0 + (i : Int)) = ((i : Nat) : Int) by omega, cut_take (by omega)]
        by_cases c : z.cps[i] ∈ z.cps.toList.take i
        · rw [decide_eq_true c]
          walk_at "rd"
          have k := k
          rw [lettersA_no fun h => Rd.nodup_take h.2 hc c] at k
          exact k
        · rw [decide_eq_false c]
          walk_at "rd"
          refine ⟨_, rfl, rfl, ?_⟩
          rw [Rd.take_snoc hc]
          refine List.nodup_append.mpr ⟨nd, by simp, fun a ha b hb e => c ?_⟩
          rw [List.mem_singleton.mp hb] at e
          rw [← e]
          exact ha
      · rintro _ H1 ⟨o, rfl, rfl, nd⟩
        rw [show z.cps.toList.take z.length = z.cps.toList from List.take_of_length_le (by rw [Array.length_toList]; exact Nat.le_refl _)] at nd
        walk_at "rd"
        rw [show lettersA (.dat (.str z)) = true from lettersA_iff.mpr ⟨hz, nd⟩] at k
        exact k
theorem ok_l_asked (T : Txt K mg) (TB : ∀ p ∈ CS T, LamX.TabB base mg p.1 p.2) : FnOk P w K mg base (L2.CX P w) 7 T.f_l_asked T.fd_l_asked ["_law_kind", "_law_book", "_law_thing", "_law_more"] (sp_l_asked K T.C_Book (CL T) (TT T)) := by
  refine T.F_l_asked.okX sc_l_asked (fun vs H Q E h => ?_) (fun cdv A outer s H vs Q E hr h => ?_)
  · obtain ⟨kind, x, y, z, t, a, b, c, rfl, _⟩ := h
    rfl
  · obtain ⟨kind, x, y, z, t, a, b, c, rfl, ha, hb, hc, cn, tb, tel⟩ := h
    refine ⟨_, (pss_cons (ps_if (pt_cmpR op_eq (pv 0) pe_int (nomark _))
  (pss_one (ps_ret (pe_callS (ok_tells T) (hr.mono (by decide)) rfl T.g_tells T.F_tells.kp T.b_tells (fun σ => passAt (takes_of rfl rfl rfl rfl) σ) (pa_cons (pv 1) (pa_cons (pv 2) pa_nil)))))
  pss_nil)
  (pss_cons (ps_if (pt_cmpR op_eq (pv 0) pe_int (nomark _))
  (pss_one (ps_ret (pe_callS (ok_least_lots T TB) (hr.mono (by decide)) rfl T.g_least_lots T.F_least_lots.kp T.b_least_lots (fun σ => passAt (takes_of rfl rfl rfl rfl) σ) (pa_cons (pv 1) (pa_cons (pv 2) pa_nil)))))
  pss_nil)
  (pss_cons (ps_if (pt_cmpR op_eq (pv 0) pe_int (nomark _))
  (pss_one (ps_ret (pe_callS (ok_unable_lots T TB) (hr.mono (by decide)) rfl T.g_unable_lots T.F_unable_lots.kp T.b_unable_lots (fun σ => passAt (takes_of rfl rfl rfl rfl) σ) (pa_cons (pv 1) (pa_cons (pv 2) pa_nil)))))
  pss_nil)
  (pss_cons (ps_if (pt_cmpR op_eq (pv 0) pe_int (nomark _))
  (pss_one (ps_ret (pe_callS (ok_is_least_lot T) (hr.mono (by decide)) rfl T.g_is_least_lot T.F_is_least_lot.kp T.b_is_least_lot (fun σ => passAt (takes_of rfl rfl rfl rfl) σ) (pa_cons (pv 1) (pa_cons (pv 2) (pa_cons (pv 3) pa_nil))))))
  pss_nil)
  (pss_cons (ps_if (pt_cmpR op_eq (pv 0) pe_int (nomark _))
  (pss_one (ps_ret (pe_callS (ok_is_unable_lot T) (hr.mono (by decide)) rfl T.g_is_unable_lot T.F_is_unable_lot.kp T.b_is_unable_lot (fun σ => passAt (takes_of rfl rfl rfl rfl) σ) (pa_cons (pv 1) (pa_cons (pv 2) (pa_cons (pv 3) pa_nil))))))
  pss_nil)
  (pss_cons (ps_if (pt_cmpR op_eq (pv 0) pe_int (nomark _))
  (pss_one (ps_ret (pe_callS (ok_tells_book T) (hr.mono (by decide)) rfl T.g_tells_book T.F_tells_book.kp T.b_tells_book (fun σ => passAt (takes_of rfl rfl rfl rfl) σ) (pa_cons (pv 1) (pa_cons (pv 2) pa_nil)))))
  pss_nil)
  (pss_cons (ps_if (pt_cmpR op_eq (pv 0) pe_int (nomark _))
  (pss_one (ps_ret (pe_callS (ok_rules_for T) (hr.mono (by decide)) rfl T.g_rules_for T.F_rules_for.kp T.b_rules_for (fun σ => passAt (takes_of rfl rfl rfl rfl) σ) (pa_cons (pv 1) (pa_cons (pv 2) pa_nil)))))
  pss_nil)
  (pss_cons (ps_if (pt_cmpR op_eq (pv 0) pe_int (nomark _))
  (pss_one (ps_ret (pe_callS (ok_needless T) (hr.mono (by decide)) rfl T.g_needless T.F_needless.kp T.b_needless (fun σ => passAt (takes_of rfl rfl rfl rfl) σ) (pa_cons (pv 1) pa_nil))))
  pss_nil)
  (pss_one (ps_ret (pe_callS (ok_told_words T) (hr.mono (by decide)) rfl T.g_told_words T.F_told_words.kp T.b_told_words (fun σ => passAt (takes_of rfl rfl rfl rfl) σ) (pa_cons (pv 1) (pa_cons (pv 2) (pa_cons (pv 3) pa_nil)))))))))))))), ?_⟩
    obtain ⟨e, rfl, few⟩ := cn.m
    have any : dueOf kind x a y b z (.dat e) = none → Anyo Q H := fun q v H' s' => tel.2 q v H' (LamX.ExtN.of s') (tabs_same s' tb)
    have k0 := cn.k0
    have k8 := cn.k8
    walk_at "rd"
    refine ite2 (fun c => ?_) (fun c0 => ?_)
    · subst c
      obtain ⟨d, rfl⟩ := cn.w (.inl (by decide))
      walk_at "rd"
      exact ⟨x, y, z, t, a, _, d, rfl, ha, hb.1, hb.2, tel.1, any⟩
    walk_at "rd"
    refine ite2 (fun c => ?_) (fun c1 => ?_)
    · subst c
      obtain ⟨d, rfl⟩ := cn.w (.inl (by decide))
      walk_at "rd"
      exact ⟨x, y, z, t, a, _, d, rfl, ha, hb.1, hb.2, tb, tel⟩
    walk_at "rd"
    refine ite2 (fun c => ?_) (fun c2 => ?_)
    · subst c
      obtain ⟨d, rfl⟩ := cn.w (.inl (by decide))
      walk_at "rd"
      exact ⟨x, y, z, t, a, _, d, rfl, ha, hb.1, hb.2, tb, tel⟩
    walk_at "rd"
    refine ite2 (fun c => ?_) (fun c3 => ?_)
    · subst c
      obtain ⟨d, rfl⟩ := cn.w (.inl (by decide))
      walk_at "rd"
      exact ⟨x, y, z, t, a, _, d, e, rfl, ha, hb.1, hb.2, hc.1, few, tel.1, any⟩
    walk_at "rd"
    refine ite2 (fun c => ?_) (fun c4 => ?_)
    · subst c
      obtain ⟨d, rfl⟩ := cn.w (.inl (by decide))
      walk_at "rd"
      exact ⟨x, y, z, t, a, _, d, e, rfl, ha, hb.1, hb.2, hc.1, few, tel.1, any⟩
    walk_at "rd"
    refine ite2 (fun c => ?_) (fun c5 => ?_)
    · subst c
      walk_at "rd"
      exact ⟨x, y, z, t, a, b, _, rfl, ha, hb, tel.1, any⟩
    walk_at "rd"
    refine ite2 (fun c => ?_) (fun c6 => ?_)
    · subst c
      walk_at "rd"
      exact ⟨x, y, z, t, a, b, _, rfl, ha, hb, tel.1, any⟩
    walk_at "rd"
    refine ite2 (fun c => ?_) (fun c7 => ?_)
    · subst c
      walk_at "rd"
      exact ⟨x, y, z, t, a, b, _, rfl, ha, tel.1, any⟩
    obtain rfl : kind = 8 := by omega
    obtain ⟨d, rfl⟩ := cn.w (.inr rfl)
    walk_at "rd"
    exact ⟨x, y, z, t, a, d, e, rfl, ha, hb.1, hb.2, hc.1, hc.2, tel.1, any⟩
theorem due_cls {kind : Int} {x y z v : V} {a b c : Ar} {n : Nat} (e : dueOf kind x a y b z c = some (n, v)) : n ≤ 4 := by
  unfold dueOf at e
  repeat' split at e
  all_goals first | (cases e; omega) | cases e
theorem ok_l_tried (T : Txt K mg) (TB : ∀ p ∈ CS T, LamX.TabB base mg p.1 p.2) : FnOk P w K mg base CX0 8 T.f_l_tried T.fd_l_tried ["_law_kind", "_law_book", "_law_thing", "_law_more"] (sp_l_tried K T.C_Book (TT T)) := by
  refine T.F_l_tried.ok sc_l_tried (fun vs H Q E h => ?_) (fun cdv A outer s H vs Q E hr h => ?_)
  · obtain ⟨kind, x, y, z, t, a, b, c, rfl, _⟩ := h
    rfl
  · obtain ⟨kind, x, y, z, t, a, b, c, rfl, ha, hb, hc, cn, tb, k⟩ := h
    refine ⟨_, (pss_cons (ps_set (i := 4) sc_l_tried.nd rfl (.inl rfl) (pe_tup (pa_cons pe_str (pa_cons pe_non pa_nil))))
  (pss_cons (ps_try_as (i := 5) (Wout := (fun _ _ _ _ => False)) rfl rfl sc_l_tried.nd rfl rfl ⟨rfl, by decide, Or.inl T.c_WayError⟩ takes0
   (fun W pn xe tk _ => (pss_one (ps_expr (pe_callS (ok_l_asked T TB) (hr.mono (by decide)) rfl T.g_l_asked T.F_l_asked.kp T.b_l_asked (fun σ => passAt tk σ) (pa_cons (pv 0) (pa_cons (pv 1) (pa_cons (pv 2) (pa_cons (pv 3) pa_nil))))))))
   (fun a oe cls d pn hz hf => (pss_cons (ps_set (i := 6) sc_l_tried.nd rfl (.inl rfl) (pe_lst pa_nil))
  (pss_cons (ps_if (pt_val (pe_callB (id := "isinstance") (r := Rx.rIsX K a cls d) (Rx.call_isX hz hf) (by rfl) T.n_isinstance (by decide +kernel) (pa_cons (pv 5) (pa_cons (pe_glob (v := .ref T.C_BadBook) rfl T.c_BadBook rfl) pa_nil))))
  (pss_one (ps_expr (pe_bm PySem.F.plainAttrs_list PySem.F.slot_list_append PySem.F.type_list_append mt_append (pv 6) (pa_cons pe_str pa_nil) : PE _ _ (tBM K _ _ _ _))))
  pss_nil)
  (pss_cons (ps_if (pt_val (pe_callB (id := "isinstance") (r := Rx.rIsX K a cls d) (Rx.call_isX hz hf) (by rfl) T.n_isinstance (by decide +kernel) (pa_cons (pv 5) (pa_cons (pe_glob (v := .ref T.C_BadWords) rfl T.c_BadWords rfl) pa_nil))))
  (pss_one (ps_expr (pe_bm PySem.F.plainAttrs_list PySem.F.slot_list_append PySem.F.type_list_append mt_append (pv 6) (pa_cons pe_str pa_nil) : PE _ _ (tBM K _ _ _ _))))
  pss_nil)
  (pss_cons (ps_if (pt_val (pe_callB (id := "isinstance") (r := Rx.rIsX K a cls d) (Rx.call_isX hz hf) (by rfl) T.n_isinstance (by decide +kernel) (pa_cons (pv 5) (pa_cons (pe_glob (v := .ref T.C_BadLetters) rfl T.c_BadLetters rfl) pa_nil))))
  (pss_one (ps_expr (pe_bm PySem.F.plainAttrs_list PySem.F.slot_list_append PySem.F.type_list_append mt_append (pv 6) (pa_cons pe_str pa_nil) : PE _ _ (tBM K _ _ _ _))))
  pss_nil)
  (pss_cons (ps_if (pt_val (pe_callB (id := "isinstance") (r := Rx.rIsX K a cls d) (Rx.call_isX hz hf) (by rfl) T.n_isinstance (by decide +kernel) (pa_cons (pv 5) (pa_cons (pe_glob (v := .ref T.C_BadMost) rfl T.c_BadMost rfl) pa_nil))))
  (pss_one (ps_expr (pe_bm PySem.F.plainAttrs_list PySem.F.slot_list_append PySem.F.type_list_append mt_append (pv 6) (pa_cons pe_str pa_nil) : PE _ _ (tBM K _ _ _ _))))
  pss_nil)
  (pss_cons (ps_if (pt_val (pe_callB (id := "isinstance") (r := Rx.rIsX K a cls d) (Rx.call_isX hz hf) (by rfl) T.n_isinstance (by decide +kernel) (pa_cons (pv 5) (pa_cons (pe_glob (v := .ref T.C_TooMany) rfl T.c_TooMany rfl) pa_nil))))
  (pss_one (ps_expr (pe_bm PySem.F.plainAttrs_list PySem.F.slot_list_append PySem.F.type_list_append mt_append (pv 6) (pa_cons pe_str pa_nil) : PE _ _ (tBM K _ _ _ _))))
  pss_nil)
  (pss_cons (ps_if (pt_val (pe_callB (id := "isinstance") (r := Rx.rIsX K a cls d) (Rx.call_isX hz hf) (by rfl) T.n_isinstance (by decide +kernel) (pa_cons (pv 5) (pa_cons (pe_glob (v := .ref T.C_BadWord) rfl T.c_BadWord rfl) pa_nil))))
  (pss_one (ps_expr (pe_bm PySem.F.plainAttrs_list PySem.F.slot_list_append PySem.F.type_list_append mt_append (pv 6) (pa_cons pe_str pa_nil) : PE _ _ (tBM K _ _ _ _))))
  pss_nil)
  (pss_one (ps_set (i := 4) sc_l_tried.nd rfl (.inl rfl) (pe_tup (pa_cons (pv 6) (pa_cons (Rx.pe_xv hz hf (pv 5) : PE _ _ (Rx.tXv K a cls d _ _)) pa_nil))))))))))))))
  (pss_one (ps_ret (pv 4))))), ?_⟩
    walk_at "rd"
    refine ⟨Nat.le_of_ble_eq_true rfl, Rd.new fun p0 G0 n0 g0 s0 => ?_⟩
    walk_at "rd"
    walk_at "rd"
    refine ⟨kind, x, y, z, t, a, b, c, rfl, ha.same s0, hb.same s0, hc.same s0, cn, tabs_same s0 tb, fun n v ev dd H2 nd hd s2 => ?_, fun ev v H2 e2 T2 => ?_⟩
    · have fin : ∀ (n : Nat) (s : Str) (v : V), s = nm n → ∀ (l p : Addr) (G : Hp), Same H G → G l = some (.lst [.str s]) → G p = some (.tup [.ref l, v]) → dueOf kind x a y b z c = some (n, v) → Q (.ref p) G := fun n s v es l p G sG gl gp ev => by
        subst es
        exact k p G (LamX.ExtN.of sG) (tabs_same sG tb) (duAt_eq ev ⟨l, gp, gl⟩)
      have n4 := due_cls ev
      match n, n4 with
      | 0, _ =>
        refine Rx.caught T.X_WayError T.s_BadBook_WayError fun ea na => ?_
        walk_at "rd"
        refine ⟨Nat.zero_le _, Rd.new fun l G nl gl sG => ?_⟩
        have hx := sG _ _ hd
        walk_at "rd"
        refine Rx.isX T.X_BadBook T.X_BadBook T.s_BadBook_BadBook hx ?_
        walk_at "rd"
        refine Rd.tyL (.of gl) ?_
        walk_at "rd"
        refine Rd.app gl (by rw [sizeLine_eq]; decide) fun G2 g2 off2 => ?_
        have hx2 : G2 dd = some (.xd [("value", v)]) := by rw [off2 dd (ne_of hx gl fun q => nomatch q)]; exact hx
        walk_at "rd"
        refine Rx.isX T.X_BadBook T.X_BadWords T.s_BadBook_BadWords hx2 ?_
        walk_at "rd"
        refine Rx.isX T.X_BadBook T.X_BadLetters T.s_BadBook_BadLetters hx2 ?_
        walk_at "rd"
        refine Rx.isX T.X_BadBook T.X_BadMost T.s_BadBook_BadMost hx2 ?_
        walk_at "rd"
        refine Rx.isX T.X_BadBook T.X_TooMany T.s_BadBook_TooMany hx2 ?_
        walk_at "rd"
        refine Rx.isX T.X_BadBook T.X_BadWord T.s_BadBook_BadWord hx2 ?_
        walk_at "rd"
        refine Rx.xv T.X_BadBook hx2 ?_
        walk_at "rd"
        refine ⟨Nat.le_of_ble_eq_true rfl, Rd.new fun p3 G3 n3 g3 s3 => ?_⟩
        walk_at "rd"
        exact fin 0 "book" v rfl l p3 G3 ((Rd.same_off ((s0.trans s2).trans sG) ((s0.trans s2).free nl) off2).trans s3) (s3 _ _ g2) g3 ev
      | 1, _ =>
        refine Rx.caught T.X_WayError T.s_BadWords_WayError fun ea na => ?_
        walk_at "rd"
        refine ⟨Nat.zero_le _, Rd.new fun l G nl gl sG => ?_⟩
        have hx := sG _ _ hd
        walk_at "rd"
        refine Rx.isX T.X_BadWords T.X_BadBook T.s_BadWords_BadBook hx ?_
        walk_at "rd"
        refine Rx.isX T.X_BadWords T.X_BadWords T.s_BadWords_BadWords hx ?_
        walk_at "rd"
        refine Rd.tyL (.of gl) ?_
        walk_at "rd"
        refine Rd.app gl (by rw [sizeLine_eq]; decide) fun G2 g2 off2 => ?_
        have hx2 : G2 dd = some (.xd [("value", v)]) := by rw [off2 dd (ne_of hx gl fun q => nomatch q)]; exact hx
        walk_at "rd"
        refine Rx.isX T.X_BadWords T.X_BadLetters T.s_BadWords_BadLetters hx2 ?_
        walk_at "rd"
        refine Rx.isX T.X_BadWords T.X_BadMost T.s_BadWords_BadMost hx2 ?_
        walk_at "rd"
        refine Rx.isX T.X_BadWords T.X_TooMany T.s_BadWords_TooMany hx2 ?_
        walk_at "rd"
        refine Rx.isX T.X_BadWords T.X_BadWord T.s_BadWords_BadWord hx2 ?_
        walk_at "rd"
        refine Rx.xv T.X_BadWords hx2 ?_
        walk_at "rd"
        refine ⟨Nat.le_of_ble_eq_true rfl, Rd.new fun p3 G3 n3 g3 s3 => ?_⟩
        walk_at "rd"
        exact fin 1 "words" v rfl l p3 G3 ((Rd.same_off ((s0.trans s2).trans sG) ((s0.trans s2).free nl) off2).trans s3) (s3 _ _ g2) g3 ev
      | 2, _ =>
        refine Rx.caught T.X_WayError T.s_BadLetters_WayError fun ea na => ?_
        walk_at "rd"
        refine ⟨Nat.zero_le _, Rd.new fun l G nl gl sG => ?_⟩
        have hx := sG _ _ hd
        walk_at "rd"
        refine Rx.isX T.X_BadLetters T.X_BadBook T.s_BadLetters_BadBook hx ?_
        walk_at "rd"
        refine Rx.isX T.X_BadLetters T.X_BadWords T.s_BadLetters_BadWords hx ?_
        walk_at "rd"
        refine Rx.isX T.X_BadLetters T.X_BadLetters T.s_BadLetters_BadLetters hx ?_
        walk_at "rd"
        refine Rd.tyL (.of gl) ?_
        walk_at "rd"
        refine Rd.app gl (by rw [sizeLine_eq]; decide) fun G2 g2 off2 => ?_
        have hx2 : G2 dd = some (.xd [("value", v)]) := by rw [off2 dd (ne_of hx gl fun q => nomatch q)]; exact hx
        walk_at "rd"
        refine Rx.isX T.X_BadLetters T.X_BadMost T.s_BadLetters_BadMost hx2 ?_
        walk_at "rd"
        refine Rx.isX T.X_BadLetters T.X_TooMany T.s_BadLetters_TooMany hx2 ?_
        walk_at "rd"
        refine Rx.isX T.X_BadLetters T.X_BadWord T.s_BadLetters_BadWord hx2 ?_
        walk_at "rd"
        refine Rx.xv T.X_BadLetters hx2 ?_
        walk_at "rd"
        refine ⟨Nat.le_of_ble_eq_true rfl, Rd.new fun p3 G3 n3 g3 s3 => ?_⟩
        walk_at "rd"
        exact fin 2 "letters" v rfl l p3 G3 ((Rd.same_off ((s0.trans s2).trans sG) ((s0.trans s2).free nl) off2).trans s3) (s3 _ _ g2) g3 ev
      | 3, _ =>
        refine Rx.caught T.X_WayError T.s_BadMost_WayError fun ea na => ?_
        walk_at "rd"
        refine ⟨Nat.zero_le _, Rd.new fun l G nl gl sG => ?_⟩
        have hx := sG _ _ hd
        walk_at "rd"
        refine Rx.isX T.X_BadMost T.X_BadBook T.s_BadMost_BadBook hx ?_
        walk_at "rd"
        refine Rx.isX T.X_BadMost T.X_BadWords T.s_BadMost_BadWords hx ?_
        walk_at "rd"
        refine Rx.isX T.X_BadMost T.X_BadLetters T.s_BadMost_BadLetters hx ?_
        walk_at "rd"
        refine Rx.isX T.X_BadMost T.X_BadMost T.s_BadMost_BadMost hx ?_
        walk_at "rd"
        refine Rd.tyL (.of gl) ?_
        walk_at "rd"
        refine Rd.app gl (by rw [sizeLine_eq]; decide) fun G2 g2 off2 => ?_
        have hx2 : G2 dd = some (.xd [("value", v)]) := by rw [off2 dd (ne_of hx gl fun q => nomatch q)]; exact hx
        walk_at "rd"
        refine Rx.isX T.X_BadMost T.X_TooMany T.s_BadMost_TooMany hx2 ?_
        walk_at "rd"
        refine Rx.isX T.X_BadMost T.X_BadWord T.s_BadMost_BadWord hx2 ?_
        walk_at "rd"
        refine Rx.xv T.X_BadMost hx2 ?_
        walk_at "rd"
        refine ⟨Nat.le_of_ble_eq_true rfl, Rd.new fun p3 G3 n3 g3 s3 => ?_⟩
        walk_at "rd"
        exact fin 3 "most" v rfl l p3 G3 ((Rd.same_off ((s0.trans s2).trans sG) ((s0.trans s2).free nl) off2).trans s3) (s3 _ _ g2) g3 ev
      | 4, _ =>
        refine Rx.caught T.X_WayError T.s_TooMany_WayError fun ea na => ?_
        walk_at "rd"
        refine ⟨Nat.zero_le _, Rd.new fun l G nl gl sG => ?_⟩
        have hx := sG _ _ hd
        walk_at "rd"
        refine Rx.isX T.X_TooMany T.X_BadBook T.s_TooMany_BadBook hx ?_
        walk_at "rd"
        refine Rx.isX T.X_TooMany T.X_BadWords T.s_TooMany_BadWords hx ?_
        walk_at "rd"
        refine Rx.isX T.X_TooMany T.X_BadLetters T.s_TooMany_BadLetters hx ?_
        walk_at "rd"
        refine Rx.isX T.X_TooMany T.X_BadMost T.s_TooMany_BadMost hx ?_
        walk_at "rd"
        refine Rx.isX T.X_TooMany T.X_TooMany T.s_TooMany_TooMany hx ?_
        walk_at "rd"
        refine Rd.tyL (.of gl) ?_
        walk_at "rd"
        refine Rd.app gl (by rw [sizeLine_eq]; decide) fun G2 g2 off2 => ?_
        have hx2 : G2 dd = some (.xd [("value", v)]) := by rw [off2 dd (ne_of hx gl fun q => nomatch q)]; exact hx
        walk_at "rd"
        refine Rx.isX T.X_TooMany T.X_BadWord T.s_TooMany_BadWord hx2 ?_
        walk_at "rd"
        refine Rx.xv T.X_TooMany hx2 ?_
        walk_at "rd"
        refine ⟨Nat.le_of_ble_eq_true rfl, Rd.new fun p3 G3 n3 g3 s3 => ?_⟩
        walk_at "rd"
        exact fin 4 "many" v rfl l p3 G3 ((Rd.same_off ((s0.trans s2).trans sG) ((s0.trans s2).free nl) off2).trans s3) (s3 _ _ g2) g3 ev
    · walk_at "rd"
      exact k _ _ (Rk.same_ext s0 e2) T2 (duAt_eq ev (Rk.tp_ext e2 g0))
theorem isD_bk (T : Txt K mg) {b : Addr} {ws : List Str} {H : Hp} {Q : VK} (hB : BookAt T.C_Book H b ws) (q : Q (.bl true) H) : rIsi K [.ref b, .ref T.C_Book] H Q := by
  obtain ⟨dx, tt, hb, ht⟩ := hB
  exact isiOwn T.cl_Book T.ty_Book hb q
theorem ok_l_due (T : Txt K mg) : FnOk P w K mg base CX0 3 T.f_l_due T.fd_l_due ["_law_kind", "_law_book", "_law_thing", "_law_more"] (sp_l_due K T.C_Book) := by
  refine T.F_l_due.ok sc_l_due (fun vs H Q E h => ?_) (fun cdv A outer s H vs Q E hr h => ?_)
  · obtain ⟨kind, x, y, z, t, a, b, c, rfl, _⟩ := h
    rfl
  · obtain ⟨kind, x, y, z, t, a, b, c, rfl, ha, hb, hc, cn, k⟩ := h
    refine ⟨_, (pss_cons (ps_if (pt_not (pt_val (pe_callB (id := "isinstance") (r := rIsi K) call_isi (by rfl) T.n_isinstance (by decide +kernel) (pa_cons (pv 1) (pa_cons (pe_glob (v := .ref T.C_Book) rfl T.c_Book rfl) pa_nil)))))
  (pss_one (ps_ret (pe_tup (pa_cons (pe_lst (pa_cons pe_str pa_nil)) (pa_cons (pv 1) pa_nil)))))
  pss_nil)
  (pss_cons (ps_if (pt_cmpR op_le (pv 0) pe_int (nomark _))
  (pss_cons (ps_set (i := 4) sc_l_due.nd rfl (.inl rfl) (pe_call (ok_l_fault T) (hr.mono (by decide)) rfl T.g_l_fault T.F_l_fault.kp T.b_l_fault .nil pass0 (pa_cons (pv 2) pa_nil)))
  (pss_cons (ps_if (pt_cmpR op_notN (pv 4) pe_non (nomark _))
  (pss_one (ps_ret (pe_tup (pa_cons (pe_lst (pa_cons pe_str pa_nil)) (pa_cons (pv 4) pa_nil)))))
  pss_nil)
  (pss_one (ps_if (PW.pt (pw_and (pt_cmpR op_gt (pv 0) pe_int (nomark _)) (pw_and1 (pt_cmpR op_gt (pe_callB (id := "len") (r := Rd.nLen K) Rd.c_len (by rfl) T.n_len (by decide +kernel) (pa_cons (pe_fld (pv 1) rfl) pa_nil)) pe_int (nomark _)))))
  (pss_one (ps_ret (pe_tup (pa_cons (pe_lst (pa_cons pe_str pa_nil)) (pa_cons pe_non pa_nil)))))
  pss_nil))))
  pss_nil)
  (pss_cons (ps_if (PW.pt (pw_or (pt_cmpR op_eq (pv 0) pe_int (nomark _)) (pw_or1 (pt_cmpR op_eq (pv 0) pe_int (nomark _)))))
  (pss_one (ps_if (pt_not (pt_val (pe_callB (id := "isinstance") (r := rIsi K) call_isi (by rfl) T.n_isinstance (by decide +kernel) (pa_cons (pv 2) (pa_cons (pe_glob (v := .ref T.C_Book) rfl T.c_Book rfl) pa_nil)))))
  (pss_one (ps_ret (pe_tup (pa_cons (pe_lst (pa_cons pe_str pa_nil)) (pa_cons (pv 2) pa_nil)))))
  pss_nil))
  pss_nil)
  (pss_cons (ps_if (pt_cmpR op_eq (pv 0) pe_int (nomark _))
  (pss_cons (ps_if (pt_not (pt_val (pe_call (ok_l_good_letters T) (hr.mono (by decide)) rfl T.g_l_good_letters T.F_l_good_letters.kp T.b_l_good_letters .nil pass0 (pa_cons (pv 2) pa_nil))))
  (pss_one (ps_ret (pe_tup (pa_cons (pe_lst (pa_cons pe_str pa_nil)) (pa_cons (pv 2) pa_nil)))))
  pss_nil)
  (pss_one (ps_if (PW.pt (pw_or (pt_not (pt_val (pe_callB (id := "isinstance") (r := rIsi K) call_isi (by rfl) T.n_isinstance (by decide +kernel) (pa_cons (pv 3) (pa_cons (pe_bltn (v := .ty "int") (u := .type "int") (by rfl) T.n_int (by decide +kernel) rfl) pa_nil))))) (pw_or (pt_val (pe_callB (id := "isinstance") (r := rIsi K) call_isi (by rfl) T.n_isinstance (by decide +kernel) (pa_cons (pv 3) (pa_cons (pe_bltn (v := .ty "bool") (u := .type "bool") (by rfl) T.n_bool (by decide +kernel) rfl) pa_nil)))) (pw_or (pt_cmpR op_lt (pv 3) pe_int (nomark _)) (pw_or1 (pt_cmpR op_gt (pv 3) pe_int (nomark _)))))))
  (pss_one (ps_ret (pe_tup (pa_cons (pe_lst (pa_cons pe_str pa_nil)) (pa_cons (pv 3) pa_nil)))))
  pss_nil)))
  pss_nil)
  (pss_one (ps_ret (pe_tup (pa_cons pe_str (pa_cons pe_non pa_nil))))))))), ?_⟩
    obtain ⟨e, rfl, few⟩ := cn.m
    have fin : ∀ (n : Nat) (s : Str) (v : V), s = nm n → ∀ (l p : Addr) (G : Hp), Same H G → G l = some (.lst [.str s]) → G p = some (.tup [.ref l, v]) → dueOf kind x a y b z (.dat e) = some (n, v) → Q (.ref p) G := fun n s v es l p G sG gl gp ev => by
      subst es
      exact k p G sG (duAt_eq ev ⟨l, gp, gl⟩)
    cases a with
    | dat d0 =>
      walk_at "rd"
      refine Of.ask (ofD T ha.1 ha.2.1) ?_
      walk_at "rd"
      refine ⟨Nat.le_of_ble_eq_true rfl, Rd.new fun p1 G1 n1 g1 s1 => ?_⟩
      walk_at "rd"
      refine ⟨Nat.le_of_ble_eq_true rfl, Rd.new fun p2 G2 n2 g2 s2 => ?_⟩
      walk_at "rd"
      exact fin 0 "book" x rfl p1 p2 G2 (s1.trans s2) (s2 _ _ g1) g2 rfl
    | bk ws =>
      obtain ⟨bk, rfl, hB, W⟩ := ha
      have told : dueOf kind (.ref bk) (.bk ws) y b z (.dat e) = none → ∀ (H1 : Hp) (p : Addr), Same H H1 → H1 p = some (.tup [.str "told", .non]) → Q (.ref p) H1 := fun ev H1 p s1 g => k p H1 s1 (duAt_eq ev g)
      walk_at "rd"
      refine isD_bk T hB ?_
      walk_at "rd"
      refine ite2 (fun c4 => ?_) (fun c4 => ?_)
      · obtain ⟨d, rfl⟩ := cn.w (.inl c4)
        walk_at "rd"
        refine ⟨y, t, d, rfl, hb.1, hb.2, fun H1 s1 => ?_⟩
        cases ef : faultD d with
        | some i =>
          walk_at "rd"
          refine ⟨rfl, _, rfl, ?_⟩
          refine Rd.yes (by simp [optI]) ?_
          walk_at "rd"
          refine ⟨Nat.le_of_ble_eq_true rfl, Rd.new fun p1 G1 n1 g1 s2 => ?_⟩
          walk_at "rd"
          refine ⟨Nat.le_of_ble_eq_true rfl, Rd.new fun p2 G2 n2 g2 s3 => ?_⟩
          walk_at "rd"
          exact fin 1 "words" (.int i) rfl p1 p2 G2 ((s1.trans s2).trans s3) (s3 _ _ g1) g2 (due_w1 c4 ef)
        | none =>
          walk_at "rd"
          refine ⟨rfl, _, rfl, ?_⟩
          refine Rd.no (by simp [optI]) ?_
          walk_at "rd"
          obtain ⟨dx, tt, hbk, htt⟩ := hB.same s1
          have due := due_w0 (x := .ref bk) (y := y) (z := z) (ws := ws) (c := .dat e) c4 ef
          refine ite2 (fun c0 => ?_) (fun c0 => ?_)
          · walk_at "rd"
            refine Rd.fld hbk T.cl_Book T.na_Book_watches rfl ?_
            walk_at "rd"
            refine Rd.len (.inr (.of htt)) ?_
            rw [List.length_map]
            walk_at "rd"
            refine ite2 (fun c1 => ?_) (fun c1 => ?_)
            · walk_at "rd"
              refine ⟨Nat.le_of_ble_eq_true rfl, Rd.new fun p1 G1 n1 g1 s2 => ?_⟩
              walk_at "rd"
              refine ⟨Nat.le_of_ble_eq_true rfl, Rd.new fun p2 G2 n2 g2 s3 => ?_⟩
              walk_at "rd"
              exact fin 4 "many" .non rfl p1 p2 G2 ((s1.trans s2).trans s3) (s3 _ _ g1) g2 (due.trans (if_pos ⟨by omega, by omega⟩))
            · walk_at "rd"
              refine Rd.no (show ¬ kind = 5 by omega) ?_
              walk_at "rd"
              refine Rd.no (show ¬ kind = 6 by omega) ?_
              walk_at "rd"
              refine Rd.no (show ¬ kind = 8 by omega) ?_
              walk_at "rd"
              refine ⟨Nat.le_of_ble_eq_true rfl, Rd.new fun p2 G2 n2 g2 s3 => ?_⟩
              walk_at "rd"
              exact told (due.trans (if_neg fun q => c1 (by omega))) _ p2 (s1.trans s3) g2
          · walk_at "rd"
            refine Rd.no (show ¬ kind = 5 by omega) ?_
            walk_at "rd"
            refine Rd.no (show ¬ kind = 6 by omega) ?_
            walk_at "rd"
            refine Rd.no (show ¬ kind = 8 by omega) ?_
            walk_at "rd"
            refine ⟨Nat.le_of_ble_eq_true rfl, Rd.new fun p2 G2 n2 g2 s3 => ?_⟩
            walk_at "rd"
            exact told (due.trans (if_neg fun q => c0 (by omega))) _ p2 (s1.trans s3) g2
      · walk_at "rd"
        refine ite2 (fun c5 => ?_) (fun c5 => ?_)
        · skip
          walk_at "rd"
          cases b with
          | dat d0 =>
            refine Of.ask (ofD T hb.1 hb.2.1) ?_
            walk_at "rd"
            refine ⟨Nat.le_of_ble_eq_true rfl, Rd.new fun p1 G1 n1 g1 s2 => ?_⟩
            walk_at "rd"
            refine ⟨Nat.le_of_ble_eq_true rfl, Rd.new fun p2 G2 n2 g2 s3 => ?_⟩
            walk_at "rd"
            exact fin 0 "book" y rfl p1 p2 G2 (s2.trans s3) (s3 _ _ g1) g2 (due_b (.inl c5))
          | bk us =>
            obtain ⟨b2, rfl, hB2, W2⟩ := hb
            refine isD_bk T hB2 ?_
            walk_at "rd"
            refine Rd.no (show ¬ kind = 8 by omega) ?_
            walk_at "rd"
            refine ⟨Nat.le_of_ble_eq_true rfl, Rd.new fun p2 G2 n2 g2 s3 => ?_⟩
            walk_at "rd"
            exact told (due_b (.inl c5)) _ p2 s3 g2
        walk_at "rd"
        refine ite2 (fun c6 => ?_) (fun c6 => ?_)
        · skip
          walk_at "rd"
          cases b with
          | dat d0 =>
            refine Of.ask (ofD T hb.1 hb.2.1) ?_
            walk_at "rd"
            refine ⟨Nat.le_of_ble_eq_true rfl, Rd.new fun p1 G1 n1 g1 s2 => ?_⟩
            walk_at "rd"
            refine ⟨Nat.le_of_ble_eq_true rfl, Rd.new fun p2 G2 n2 g2 s3 => ?_⟩
            walk_at "rd"
            exact fin 0 "book" y rfl p1 p2 G2 (s2.trans s3) (s3 _ _ g1) g2 (due_b (.inr c6))
          | bk us =>
            obtain ⟨b2, rfl, hB2, W2⟩ := hb
            refine isD_bk T hB2 ?_
            walk_at "rd"
            refine Rd.no (show ¬ kind = 8 by omega) ?_
            walk_at "rd"
            refine ⟨Nat.le_of_ble_eq_true rfl, Rd.new fun p2 G2 n2 g2 s3 => ?_⟩
            walk_at "rd"
            exact told (due_b (.inr c6)) _ p2 s3 g2
        walk_at "rd"
        refine ite2 (fun c8 => ?_) (fun c8 => ?_)
        · subst c8
          obtain ⟨d, rfl⟩ := cn.w (.inr rfl)
          have badm : lettersA (.dat d) = true → mostA (.dat e) = false → ∀ (l p : Addr) (G : Hp), Same H G → G l = some (.lst [.str "most"]) → G p = some (.tup [.ref l, z]) → Q (.ref p) G := fun e1 e2 l p G sG gl gp => fin 3 "most" z rfl l p G sG gl gp (due_l.trans ((if_neg (by rw [e1]; exact Bool.noConfusion)).trans (if_pos e2)))
          walk_at "rd"
          refine ⟨y, t, d, rfl, hb.1, hb.2.1, ?_⟩
          cases q : lettersA (.dat d) with
          | false =>
            walk_at "rd"
            refine ⟨Nat.le_of_ble_eq_true rfl, Rd.new fun p1 G1 n1 g1 s2 => ?_⟩
            walk_at "rd"
            refine ⟨Nat.le_of_ble_eq_true rfl, Rd.new fun p2 G2 n2 g2 s3 => ?_⟩
            walk_at "rd"
            exact fin 2 "letters" y rfl p1 p2 G2 (s2.trans s3) (s3 _ _ g1) g2 (due_l.trans (if_pos q))
          | true =>
            walk_at "rd"
            refine Ri.askInt hc.1 ?_
            by_cases ci : Ri.isIntD e = true
            · rw [ci]
              walk_at "rd"
              refine Ri.askBool hc.1 ?_
              by_cases cb : Ri.isBoolD e = true
              · rw [cb]
                walk_at "rd"
                refine ⟨Nat.le_of_ble_eq_true rfl, Rd.new fun p1 G1 n1 g1 s2 => ?_⟩
                walk_at "rd"
                refine ⟨Nat.le_of_ble_eq_true rfl, Rd.new fun p2 G2 n2 g2 s3 => ?_⟩
                walk_at "rd"
                exact badm q (by cases e <;> first | rfl | cases cb) p1 p2 G2 (s2.trans s3) (s3 _ _ g1) g2
              · obtain ⟨i, rfl⟩ : ∃ i, e = .int i := by cases e <;> first | exact ⟨_, rfl⟩ | exact absurd rfl cb | cases ci
                rw [Bool.not_eq_true] at cb
                rw [cb]
                obtain rfl : z = .int i := by cases hc.1; rfl
                walk_at "rd"
                refine ite2 (fun m0 => ?_) (fun m0 => ?_)
                · walk_at "rd"
                  refine ⟨Nat.le_of_ble_eq_true rfl, Rd.new fun p1 G1 n1 g1 s2 => ?_⟩
                  walk_at "rd"
                  refine ⟨Nat.le_of_ble_eq_true rfl, Rd.new fun p2 G2 n2 g2 s3 => ?_⟩
                  walk_at "rd"
                  exact badm q (decide_eq_false fun h => by omega) p1 p2 G2 (s2.trans s3) (s3 _ _ g1) g2
                walk_at "rd"
                refine ite2 (fun m1 => ?_) (fun m1 => ?_)
                · walk_at "rd"
                  refine ⟨Nat.le_of_ble_eq_true rfl, Rd.new fun p1 G1 n1 g1 s2 => ?_⟩
                  walk_at "rd"
                  refine ⟨Nat.le_of_ble_eq_true rfl, Rd.new fun p2 G2 n2 g2 s3 => ?_⟩
                  walk_at "rd"
                  exact badm q (decide_eq_false fun h => by omega) p1 p2 G2 (s2.trans s3) (s3 _ _ g1) g2
                walk_at "rd"
                refine ⟨Nat.le_of_ble_eq_true rfl, Rd.new fun p2 G2 n2 g2 s3 => ?_⟩
                walk_at "rd"
                exact told (due_l.trans ((if_neg (by rw [q]; exact Bool.noConfusion)).trans (if_neg (by rw [show mostA (.dat (.int i)) = true from decide_eq_true ⟨by omega, by omega⟩]; exact Bool.noConfusion)))) _ p2 s3 g2
            · rw [Bool.not_eq_true] at ci
              rw [ci]
              walk_at "rd"
              refine ⟨Nat.le_of_ble_eq_true rfl, Rd.new fun p1 G1 n1 g1 s2 => ?_⟩
              walk_at "rd"
              refine ⟨Nat.le_of_ble_eq_true rfl, Rd.new fun p2 G2 n2 g2 s3 => ?_⟩
              walk_at "rd"
              exact badm q (by cases e <;> first | rfl | cases ci) p1 p2 G2 (s2.trans s3) (s3 _ _ g1) g2
        · obtain rfl : kind = 7 := by have := cn.k8; omega
          walk_at "rd"
          refine ⟨Nat.le_of_ble_eq_true rfl, Rd.new fun p2 G2 n2 g2 s3 => ?_⟩
          walk_at "rd"
          exact told due_7 _ p2 s3 g2

end
end W

namespace W
open PySem PySem.Spec PyProof.Rows L2
section
variable {P : Program} {w : World} {K : PySem.W.Frag} {mg : Str → Option Value} {base : Heap}
/-! ### bad words -/
def It (d : PyData) : Prop := (∃ z, Lt.Wd 12 z ∧ d = .str z) ∨ d ∈ oddD
theorem It.sd {d : PyData} (h : It d) : Ri.Sd 3 200 d := by
  rcases h with ⟨z, hz, rfl⟩ | m
  · refine ⟨rfl, Nat.zero_le _, ?_⟩
    show (PySem.reprText z).length ≤ 200
    have lo : ∀ c ∈ z.cps.toList, c < 16 ^ 8 := fun c hc => by
      have : ∀ c ∈ Lt.Abc.cps.toList, c < 16 ^ 8 := by decide +kernel
      exact this c (hz.ok c hc)
    have := StrLaws.reprText_len z lo
    have := hz.l1
    have e : z.cps.size = z.length := rfl
    omega
  · exact odd_sd d m
theorem odd_sm : ∀ d ∈ oddD, SmD d := by
  have h : (oddD.all smAll) = true := by decide +kernel
  exact fun d m => smD_of (List.all_eq_true.mp h d m)
theorem It.sm {d : PyData} (h : It d) : SmI d := by
  rcases h with ⟨z, hz, rfl⟩ | m
  · exact decide_eq_true (by have := hz.l1; omega)
  · exact (odd_sm d m).1
structure Wds (d : PyData) : Prop where
  sm : SmD d
  sd : Ri.Sd 10 100000 d
theorem odd_wds {d : PyData} (m : d ∈ oddD) : Wds d := ⟨odd_sm d m, (odd_sd d m).up (by decide) (by decide)⟩
/-- a list of such items -/
def LI (H : Hp) (t q : Addr) (n : Nat) : Prop := q ≠ t ∧ ∃ vs ds, H q = some (.lst vs) ∧ Ri.DdAll H t vs ds ∧ ds.length ≤ n ∧ ∀ d ∈ ds, It d
theorem LI.but {H H' : Hp} {t q : Addr} {n : Nat} (b : Rd.But t H H') (h : LI H t q n) : LI H' t q n := let ⟨nt, vs, ds, g, a, l, i⟩ := h; ⟨nt, vs, ds, b _ _ nt g, a.but b, l, i⟩
theorem LI.same {H H' : Hp} {t q : Addr} {n : Nat} (s : Same H H') (h : LI H t q n) : LI H' t q n := h.but (.of s)
theorem LI.sl {H : Hp} {t c q : Addr} {n : Nat} {lo hi : Option Int} {Q : VK} (tp : Tape H t c) (h : LI H t q n) (k : ∀ (p : Addr) (G : Hp), Same H G → LI G t p n → Q (.ref p) G) : rSlL K (.ref q) lo hi H Q := by
  obtain ⟨nt, vs, ds, g, a, l, i⟩ := h
  refine Rd.slL (.of g) (Rd.new fun p G np gp s => k p G s ⟨(tp.new np).1, _, _, gp, ((a.but (.of s)).drop _).take _, ?_, fun d m => i d (List.mem_of_mem_drop (List.mem_of_mem_take m))⟩)
  rw [List.length_take, List.length_drop]
  omega
theorem LI.cat {H : Hp} {t c q r : Addr} {n m : Nat} {Q : VK} (tp : Tape H t c) (h : LI H t q n) (h2 : LI H t r m) (nm : n + m ≤ 1000) (k : ∀ (p : Addr) (G : Hp), Same H G → LI G t p (n + m) → Q (.ref p) G) : rCat (.ref q) (.ref r) H Q := by
  obtain ⟨nt, vs, ds, g, a, l, i⟩ := h
  obtain ⟨nt2, us, es, g2, a2, l2, i2⟩ := h2
  have e1 := a.len
  have e2 := a2.len
  refine Rd.cat g g2 (by rw [sizeLine_eq]; omega) (Rd.new fun p G np gp s => k p G s ⟨(tp.new np).1, _, _, gp, (a.but (.of s)).app (a2.but (.of s)), by rw [List.length_append]; omega, fun d m => ?_⟩)
  rcases List.mem_append.mp m with m | m
  · exact i d m
  · exact i2 d m
theorem LI.new {H : Hp} {t c : Addr} {xs : List V} {ds : List PyData} {Q : VK} (tp : Tape H t c) (a : Ri.DdAll H t xs ds) (i : ∀ d ∈ ds, It d) (k : ∀ (p : Addr) (G : Hp), Same H G → LI G t p ds.length → Q (.ref p) G) : Rd.NewQ (.lst xs) Q H :=
  Rd.new fun p G np gp s => k p G s ⟨(tp.new np).1, xs, ds, gp, a.but (.of s), Nat.le_refl _, i⟩
theorem row_sm {ds : List PyData} (l : ds.length ≤ 100) (i : ∀ d ∈ ds, It d) : ds.length ≤ 1000000 ∧ ∀ e ∈ ds, SmI e := ⟨by omega, fun e m => (i e m).sm⟩
theorem lst_wds {ds : List PyData} (l : ds.length ≤ 100) (i : ∀ d ∈ ds, It d) : Wds (.list ds) := by
  refine ⟨⟨decide_eq_true (by omega), fun es e => by cases e; exact fun x m => (i x m).sm⟩, (Ri.sd_lst fun d m => (i d m).sd).up (by decide) ?_⟩
  have : (200 + 2) * ds.length ≤ 202 * 100 := Nat.mul_le_mul_left _ (by omega)
  omega
theorem tup_wds {ds : List PyData} (l : ds.length ≤ 100) (i : ∀ d ∈ ds, It d) : Wds (.tuple ds) := by
  refine ⟨⟨decide_eq_true (by omega), fun es e => by cases e; exact fun x m => (i x m).sm⟩, (Ri.sd_tup fun d m => (i d m).sd).up (by decide) ?_⟩
  have : (200 + 2) * ds.length ≤ 202 * 100 := Nat.mul_le_mul_left _ (by omega)
  omega
theorem LI.done {H : Hp} {t p : Addr} {n : Nat} (h : LI H t p n) (l : n ≤ 100) : ∃ d, Ri.Dd H t (.ref p) d ∧ Wds d := by
  obtain ⟨nt, vs, ds, g, a, dl, i⟩ := h
  exact ⟨.list ds, .lst nt g a, lst_wds (by omega) i⟩
theorem strs_it {us : List Str} (h : ∀ z ∈ us, Lt.Wd 12 z) : ∀ d ∈ us.map PyData.str, It d := fun d m => let ⟨z, mz, e⟩ := List.mem_map.mp m; .inl ⟨z, h z mz, e.symm⟩
theorem LI.strs {H : Hp} {t q : Addr} {us : List Str} (nt : q ≠ t) (h : H q = some (.lst (us.map V.str))) (hz : ∀ z ∈ us, Lt.Wd 12 z) : LI H t q us.length :=
  ⟨nt, _, _, h, .strs us, by rw [List.length_map]; exact Nat.le_refl _, strs_it hz⟩
theorem ab_wd : Lt.Wd 12 "ab" := ⟨by unfold Lt.Let; decide +kernel, by decide, by decide⟩
theorem ab_many (n : Nat) : (List.replicate n [V.str "ab"]).flatten = (List.replicate n ("ab" : Str)).map V.str := by
  induction n with
  | zero => rfl
  | succ n ih => rw [List.replicate_succ, List.replicate_succ, List.flatten_cons, ih]; rfl
def sp_l_bad_words (K : PySem.W.Frag) : Sp := fun vs H Q _ => ∃ (t c a : Addr) (zs : List Str), vs = [.ref t, .ref a] ∧ Tape H t c ∧ a ≠ t ∧ H a = some (.lst (zs.map V.str)) ∧ zs.length ≤ 8 ∧ (∀ z ∈ zs, Lt.Wd 12 z) ∧ ∀ (x : V) (d : PyData) H', Ri.Dd H' t x d → Wds d → Tape H' t c → Rd.But t H H' → Q x H'
theorem ok_l_bad_words (T : Txt K mg) : FnOk P w K mg base CX0 3 T.f_l_bad_words T.fd_l_bad_words ["_law_tape_here", "_law_words"] (sp_l_bad_words K) := by
  refine T.F_l_bad_words.ok sc_l_bad_words (fun vs H Q E h => ?_) (fun cdv A outer s H vs Q E hr h => ?_)
  · obtain ⟨t, c, a, zs, rfl, _⟩ := h
    rfl
  · obtain ⟨t, c, a, zs, rfl, tp, nt, ha, z8, hz, k⟩ := h
    refine ⟨_, (pss_cons (ps_set (i := 2) sc_l_bad_words.nd rfl (.inl rfl) (pe_call (ok_l_pick T) (hr.mono (by decide)) rfl T.g_l_pick T.F_l_pick.kp T.b_l_pick .nil pass0 (pa_cons (pv 0) (pa_cons pe_int pa_nil))))
  (pss_cons (ps_set (i := 3) sc_l_bad_words.nd rfl (.inl rfl) (pe_call (ok_l_pick T) (hr.mono (by decide)) rfl T.g_l_pick T.F_l_pick.kp T.b_l_pick .nil pass0 (pa_cons (pv 0) (pa_cons (pe_op op_add (pe_callB (id := "len") (r := Rd.nLen K) Rd.c_len (by rfl) T.n_len (by decide +kernel) (pa_cons (pv 1) pa_nil)) pe_int) pa_nil))))
  (pss_cons (ps_if (pt_cmpR op_eq (pv 2) pe_int (nomark _))
  (pss_one (ps_ret (pe_call (ok_l_odd T) (hr.mono (by decide)) rfl T.g_l_odd T.F_l_odd.kp T.b_l_odd .nil pass0 (pa_cons (pv 0) pa_nil))))
  pss_nil)
  (pss_cons (ps_if (pt_cmpR op_eq (pv 2) pe_int (nomark _))
  (pss_one (ps_ret (pe_slice (r := rSlL K) sl_list (pe_op op_cat (pv 1) (pe_op op_rep (pe_lst (pa_cons pe_str pa_nil)) pe_int)) po_none (po_some (pe_op op_add pe_int (pe_call (ok_l_pick T) (hr.mono (by decide)) rfl T.g_l_pick T.F_l_pick.kp T.b_l_pick .nil pass0 (pa_cons (pv 0) (pa_cons pe_int pa_nil))))))))
  pss_nil)
  (pss_cons (ps_set (i := 4) sc_l_bad_words.nd rfl (.inl rfl) (pe_op op_cat (pe_op op_cat (pe_slice (r := rSlL K) sl_list (pv 1) po_none (po_some (pv 3))) (pe_lst (pa_cons (pe_call (ok_l_odd T) (hr.mono (by decide)) rfl T.g_l_odd T.F_l_odd.kp T.b_l_odd .nil pass0 (pa_cons (pv 0) pa_nil)) pa_nil))) (pe_slice (r := rSlL K) sl_list (pv 1) (po_some (pv 3)) po_none)))
  (pss_cons (ps_if (pt_cmpR op_eq (pv 2) pe_int (nomark _))
  (pss_one (ps_ret (pe_callTy (T := "tuple") (r := Rd.nTupOf K) Rd.c_tupOf (by rfl) T.n_tuple (by decide +kernel) (pa_cons (pv 4) pa_nil))))
  pss_nil)
  (pss_one (ps_ret (pv 4))))))))), ?_⟩
    walk_at "rd"
    refine pickR tp (by decide) (by decide) fun r H1 r0 r1 tp1 b1 => ?_
    have ha1 := b1 _ _ nt ha
    walk_at "rd"
    refine Rd.len (.inl (.of ha1)) ?_
    rw [List.length_map]
    walk_at "rd"
    refine pickR tp1 (by omega) (by omega) fun j H2 j0 j1 tp2 b2 => ?_
    have ha2 := b2 _ _ nt ha1
    have b12 := b1.trans b2
    have li := LI.strs nt ha2 hz
    walk_at "rd"
    refine ite2 (fun c0 => ?_) (fun c0 => ?_)
    · walk_at "rd"
      exact ⟨t, c, rfl, tp2, fun x d H3 m dd tp3 b3 => k x d H3 dd (odd_wds m) tp3 (b12.trans b3)⟩
    walk_at "rd"
    refine ite2 (fun c1 => ?_) (fun c1 => ?_)
    · walk_at "rd"
      refine ⟨Nat.le_of_ble_eq_true rfl, Rd.new fun p1 G1 n1 g1 s1 => ?_⟩
      walk_at "rd"
      refine Rd.rep g1 (by decide) (by decide) (by rw [sizeLine_eq]; decide) (Rd.new fun p2 G2 n2 g2 s2 => ?_)
      have tpG := (tp2.same s1).same s2
      rw [ab_many] at g2
      have li2 := LI.strs ((tp2.same s1).new n2).1 g2 fun z m => by rw [List.eq_of_mem_replicate m]; exact ab_wd
      have liA := (li.same s1).same s2
      refine LI.cat tpG liA li2 (by rw [List.length_replicate]; have : (21 : Int).toNat = 21 := rfl; omega) fun p3 G3 s3 li3 => ?_
      walk_at "rd"
      refine pickR (tpG.same s3) (by decide) (by decide) fun m H5 m0 m1 tp5 b5 => ?_
      walk_at "rd"
      refine (li3.but b5).sl tp5 fun p4 G4 s4 li4 => ?_
      walk_at "rd"
      obtain ⟨d, dd, wd⟩ := li4.done (by rw [List.length_replicate]; have : (21 : Int).toNat = 21 := rfl; omega)
      exact k _ d G4 dd wd (tp5.same s4) (((((b12.same s1).same s2).same s3).trans b5).same s4)
    walk_at "rd"
    refine li.sl tp2 fun p1 G1 s1 li1 => ?_
    have tpA := tp2.same s1
    walk_at "rd"
    refine ⟨t, c, rfl, tpA, fun x d H3 m dd tp3 b3 => ?_⟩
    walk_at "rd"
    refine ⟨Nat.le_of_ble_eq_true rfl, LI.new tp3 (ds := [d]) (.cons dd .nil) (fun e q => by rw [List.mem_singleton.mp q]; exact .inr m) fun p2 G2 s2 li2 => ?_⟩
    have tpB := tp3.same s2
    refine LI.cat tpB ((li1.but b3).same s2) li2 (by show _ + 1 ≤ 1000; omega) fun p3 G3 s3 li3 => ?_
    walk_at "rd"
    have tpC := tpB.same s3
    refine ((((li.same s1).but b3).same s2).same s3).sl tpC fun p4 G4 s4 li4 => ?_
    walk_at "rd"
    have tpD := tpC.same s4
    refine LI.cat tpD (li3.same s4) li4 (by show (_ + 1) + _ ≤ 1000; omega) fun p5 G5 s5 li5 => ?_
    have bb := ((((((b12.same s1).trans b3).same s2).same s3).same s4).same s5)
    have tpE := tpD.same s5
    walk_at "rd"
    refine ite2 (fun c2 => ?_) (fun c2 => ?_)
    · walk_at "rd"
      obtain ⟨nt5, vs, ds, g, al, dl, i⟩ := li5
      refine Rd.tupOf (.of g) (Rd.new fun p6 G6 n6 g6 s6 => ?_)
      walk_at "rd"
      have dl : ds.length ≤ zs.length + 1 + zs.length := dl
      exact k _ (.tuple ds) G6 (.tup (tpE.new n6).1 g6 (al.but (.of s6))) (tup_wds (by omega) i) (tpE.same s6) (bb.same s6)
    · walk_at "rd"
      obtain ⟨d, dd, wd⟩ := li5.done (by show (_ + 1) + _ ≤ 100; omega)
      exact k _ d _ dd wd tpE bb
/-! ### what stands through the law -/
section
variable {H H' : Hp} {t : Addr}
mutual
theorem dd_ext (s : LamX.ExtN H H') : ∀ {v : V} {d : PyData}, Ri.Dd H t v d → Ri.Dd H' t v d
  | _, _, .non => .non
  | _, _, .bl b => .bl b
  | _, _, .int i => .int i
  | _, _, .str x => .str x
  | _, _, .lst n h q => .lst n (s _ _ h fun _ z => nomatch z) (ddAll_ext s q)
  | _, _, .tup n h q => .tup n (s _ _ h fun _ z => nomatch z) (ddAll_ext s q)
  | _, _, .dct n h e q => .dct n (s _ _ h fun _ z => nomatch z) e (ddAll_ext s q)
theorem ddAll_ext (s : LamX.ExtN H H') : ∀ {vs : List V} {ds : List PyData}, Ri.DdAll H t vs ds → Ri.DdAll H' t vs ds
  | _, _, .nil => .nil
  | _, _, .cons h1 h2 => .cons (dd_ext s h1) (ddAll_ext s h2)
end
end
/-- a thing that may be handed in the place of another one -/
def Od (d : PyData) : Prop := d ∈ oddD ∨ (∃ z : Str, z.length ≤ 1000 ∧ d = .str z) ∨ ∃ i, d = .int i
theorem Od.sm {d : PyData} (h : Od d) : SmD d := by
  rcases h with m | ⟨z, l, rfl⟩ | ⟨i, rfl⟩
  · exact odd_sm d m
  · exact ⟨decide_eq_true (by omega), fun ds e => nomatch e⟩
  · exact ⟨rfl, fun ds e => nomatch e⟩
theorem Od.few {d : PyData} (h : Od d) : Few d := by
  rcases h with m | ⟨z, l, rfl⟩ | ⟨i, rfl⟩
  · have h : (oddD.all fun d => match d with | .tuple ds => decide (ds.length ≤ 100) | _ => true) = true := by decide +kernel
    intro ds e
    have := List.all_eq_true.mp h d m
    rw [e] at this
    exact of_decide_eq_true this
  · exact fun ds e => nomatch e
  · exact fun ds e => nomatch e
def flatD : PyData → Bool
  | .list _ => false
  | .tuple _ => false
  | .dict _ => false
  | _ => true
theorem Od.dct {kd : List (PyData × PyData)} (h : Od (.dict kd)) : kd.length ≤ 1 ∧ ∀ p ∈ kd, flatD p.2 = true := by
  rcases h with m | ⟨z, l, e⟩ | ⟨i, e⟩
  · have h : (oddD.all fun d => match d with | .dict kd => decide (kd.length ≤ 1) && kd.all fun p => flatD p.2 | _ => true) = true := by decide +kernel
    have := List.all_eq_true.mp h _ m
    simp only [Bool.and_eq_true, decide_eq_true_eq, List.all_eq_true] at this
    exact this
  · cases e
  · cases e
theorem dd_flat {H : Hp} {t : Addr} {v : V} {d : PyData} (h : Ri.Dd H t v d) : flatB v = true ∨ ∃ a, v = .ref a := by
  cases h <;> first | exact .inl rfl | exact .inr ⟨_, rfl⟩
theorem ddAll_flat {H : Hp} {t : Addr} : ∀ {vs : List V} {ds : List PyData}, Ri.DdAll H t vs ds → ∀ v ∈ vs, flatB v = true ∨ ∃ a, v = .ref a
  | _, _, .nil, v, m => nomatch m
  | _, _, .cons h1 h2, v, m => by
    rcases List.mem_cons.mp m with rfl | m
    · exact dd_flat h1
    · exact ddAll_flat h2 v m
def NeS (K : PySem.W.Frag) : R2 := fun x y H Q => rNe x y H Q ∨ (Rx.rNeX K x y H Q ∨ (Bw.rNeL K x y H Q ∨ rNeDA x y H Q))
theorem neS {H : Hp} {t : Addr} {v : V} {d : PyData} {Q : VK} (h : Ri.Dd H t v d) (o : Od d) (q : Q (.bl false) H) : NeS K v v H Q := by
  cases h with
  | non => exact .inl ⟨rfl, q⟩
  | bl b => exact .inl ⟨by cases b <;> rfl, by rw [decide_eq_true rfl]; exact q⟩
  | int i => exact .inl ⟨rfl, by rw [decide_eq_true rfl]; exact q⟩
  | str z => exact .inl ⟨rfl, by rw [decide_eq_true rfl]; exact q⟩
  | lst n g al => exact .inr (.inr (.inl (Bw.neL (.of g) (ddAll_flat al) q)))
  | tup n g al => exact .inr (.inl ⟨⟨_, _, _, _, rfl, rfl, .of g, .of g, Bw.eqIs_self (ddAll_flat al)⟩, q⟩)
  | @dct a kvs kd n g e al =>
    obtain ⟨l, fl⟩ := o.dct
    have el : kvs.length = kd.length := by have := congrArg List.length e; simpa using this.symm
    refine .inr (.inr (.inr ⟨_, _, _, _, rfl, rfl, g, g, rfl, fun p m => ?_, q⟩))
    match kvs, kd, el, l, fl, m, al with
    | [(k, v)], [(kd, vd)], _, _, fl, m, .cons hv .nil =>
      rw [List.mem_singleton.mp m]
      have f := fl _ (List.mem_singleton.mpr rfl)
      refine ⟨by simp [valV], ?_⟩
      cases hv <;> first | rfl | cases f
    | _ :: _ :: _, _, el, l, _, _, _ => rw [← el] at l; simp at l
structure Sc (T : Txt K mg) (t c : Addr) (x : V) (a : Ar) (y : V) (b : Ar) (L : V) (d : PyData) (z : V) (e : PyData) (w : V) (wd : PyData) (H : Hp) : Prop where
  tp : Tape H t c
  tb : LamX.Tabs (TT T) H
  hx : ArAt T.C_Book H t x a
  hy : ArAt T.C_Book H t y b
  hl : Ri.Dd H t L d
  hz : Ri.Dd H t z e
  hw : Ri.Dd H t w wd
theorem tape_lst {H : Hp} {t c : Addr} (tp : Tape H t c) : ∃ xs, H t = some (.lst xs) := let ⟨_, _, _, _, _, _, g, _⟩ := tp; ⟨_, g⟩
theorem tabs_but {tt : List (Addr × Str)} {H H' : Hp} {t c : Addr} (tp : Tape H t c) (b : Rd.But t H H') (h : LamX.Tabs tt H) : LamX.Tabs tt H' := let ⟨_, g⟩ := tape_lst tp; Rk.tabs_nol h (.but g b)
theorem Sc.same {T : Txt K mg} {t c : Addr} {x y L z w : V} {a b : Ar} {d e wd : PyData} {H H' : Hp} (s : Same H H') (h : Sc T t c x a y b L d z e w wd H) : Sc T t c x a y b L d z e w wd H' :=
  ⟨h.tp.same s, tabs_same s h.tb, h.hx.same s, h.hy.same s, h.hl.same s, h.hz.same s, h.hw.same s⟩
theorem ar_ext {C t : Addr} {H H' : Hp} {x : V} (s : LamX.ExtN H H') : ∀ {a : Ar}, ArAt C H t x a → ArAt C H' t x a
  | .dat d, h => ⟨dd_ext s h.1, h.2⟩
  | .bk ws, ⟨b, e, ⟨dx, tt, h1, h2⟩, w⟩ => ⟨b, e, ⟨dx, tt, Rk.ins_ext s h1, Rk.tp_ext s h2⟩, w⟩
theorem Sc.ext {T : Txt K mg} {t c : Addr} {x y L z w : V} {a b : Ar} {d e wd : PyData} {H H' : Hp} (s : LamX.ExtN H H') (tb : LamX.Tabs (TT T) H') (h : Sc T t c x a y b L d z e w wd H) : Sc T t c x a y b L d z e w wd H' := by
  refine ⟨?_, tb, ar_ext s h.hx, ar_ext s h.hy, dd_ext s h.hl, dd_ext s h.hz, dd_ext s h.hw⟩
  obtain ⟨ns, x, y, z, u, n, h1, h2, r⟩ := h.tp
  exact ⟨ns, x, y, z, u, n, Rk.lst_ext s h1, Rk.lst_ext s h2, r⟩
theorem Sc.but {T : Txt K mg} {t c : Addr} {x y L z w : V} {a b : Ar} {d e wd : PyData} {H H' : Hp} (tp : Tape H' t c) (s : Rd.But t H H') (h : Sc T t c x a y b L d z e w wd H) : Sc T t c x a y b L d z e w wd H' :=
  ⟨tp, tabs_but h.tp s h.tb, h.hx.ext s (tape_lst h.tp), h.hy.ext s (tape_lst h.tp), h.hl.but s, h.hz.but s, h.hw.but s⟩
theorem great_len {c k : Nat} (h : k < 12) : (cutS (Txt.mul ⟨#[c]⟩ (12 : Int)) none (some (1 + (k : Int)))).length = 1 + k := by
  have e := Lt.cut_to (z := Txt.mul ⟨#[c]⟩ (12 : Int)) (b := 1 + (k : Int)) (by omega)
  have e2 : (Txt.mul ⟨#[c]⟩ (12 : Int)).length = 12 := mul_ln ⟨#[c]⟩ 12
  rw [e2] at e
  omega
theorem great_watches {c : Nat} (hc : c ∈ Lt.Abc.cps.toList) {n : Nat} (h : n ≤ 12) : Watches ((List.range n).map fun (k : Nat) => cutS (Txt.mul ⟨#[c]⟩ (12 : Int)) none (some (1 + (k : Int)))) := by
  refine ⟨?_, by rw [List.length_map, List.length_range]; exact h, fun z m => ?_⟩
  · refine List.pairwise_map.mpr ((List.nodup_range (n := n)).imp_of_mem fun {i j} mi mj ne e => ne ?_)
    have e := congrArg Str.length e
    rw [great_len (by have := List.mem_range.mp mi; omega), great_len (by have := List.mem_range.mp mj; omega)] at e
    omega
  · obtain ⟨k, mk, rfl⟩ := List.mem_map.mp m
    have kn := List.mem_range.mp mk
    have l := great_len (c := c) (k := k) (by omega)
    refine ⟨Lt.Let.cut (fun x hx => ?_) _ _, by omega, by omega⟩
    have := mul_mem (y := ⟨#[c]⟩) (n := 12) hx
    simp at this
    rw [this]
    exact hc
/-! ### the law -/
structure Ok5 (a b : Ar) (d e wd : PyData) : Prop where
  od : Od d
  oe : Od e
  sw : Wds wd
  oa : ∀ q, a = .dat q → Od q
  ob : ∀ q, b = .dat q → Od q
theorem ok_intl {i : Int} : Od (.int i) := .inr (.inr ⟨i, rfl⟩)
theorem mkBk {C CB : Addr} {H : Hp} {Q : VK} {E : XK} {a : Addr} {ws : List Str} (h : Ru.SqR K H a (ws.map V.str)) (L : Watches ws) (k : ∀ b H', BookAt C H' b ws → Same H H' → Q (.ref b) H') : Rd.MkG C (sp_Book_init K C CB) [] E [.ref a] H Q := by
  refine Rd.mk fun b dx G nb nd ne gb s off => ?_
  have l1 := L.l1
  exact ⟨b, a, ws, rfl, ⟨dx, gb⟩, Rk.row_same s h, fun z m => by have := (L.ok z m).l1; omega, by omega, .inr (.inr ⟨L, fun H' hB bt => ⟨rfl, k b H' hB fun q o e => bt q o (ne_of_none e nb) (s _ _ e)⟩⟩)⟩
theorem due_od {kind : Int} {x y z v : V} {a b c : Ar} {n : Nat} {H : Hp} {C t : Addr} (ev : dueOf kind x a y b z c = some (n, v)) (k8 : kind ≤ 8) (ha : ArAt C H t x a) (hb : ArAt C H t y b) (hc : ArAt C H t z c) (oa : ∀ q, a = .dat q → Od q) (ob : 5 ≤ kind → kind ≠ 7 → ∀ q, b = .dat q → Od q) (oc : ∀ q, c = .dat q → Od q) (ib : kind = 8 → ∃ q, b = .dat q) (ic : ∃ q, c = .dat q) : ∃ d, Ri.Dd H t v d ∧ Od d := by
  cases a with
  | dat d =>
    have ev : some (0, x) = some (n, v) := ev
    cases ev
    exact ⟨d, ha.1, oa d rfl⟩
  | bk ws =>
    by_cases c4 : kind ≤ 4
    · rw [due_w c4] at ev
      cases f : faultA b with
      | some i =>
        rw [f] at ev
        cases ev
        exact ⟨.int i, .int i, ok_intl⟩
      | none =>
        rw [f] at ev
        have ev : (if 0 < kind ∧ 10 < ws.length then some (4, V.non) else none) = some (n, v) := ev
        by_cases q : 0 < kind ∧ 10 < ws.length
        · rw [if_pos q] at ev
          cases ev
          exact ⟨.none, .non, .inl (by simp [oddD])⟩
        · rw [if_neg q] at ev
          cases ev
    · by_cases c5 : kind = 5 ∨ kind = 6
      · rw [due_b c5] at ev
        cases b with
        | dat d => cases ev; exact ⟨d, hb.1, ob (by omega) (by omega) d rfl⟩
        | bk us => cases ev
      · by_cases c8 : kind = 8
        · subst c8
          rw [due_l] at ev
          obtain ⟨q, rfl⟩ := ib rfl
          obtain ⟨r, rfl⟩ := ic
          by_cases l : lettersA (.dat q) = false
          · rw [if_pos l] at ev
            cases ev
            exact ⟨q, hb.1, ob (by omega) (by omega) q rfl⟩
          · rw [if_neg l] at ev
            by_cases m : mostA (.dat r) = false
            · rw [if_pos m] at ev
              cases ev
              exact ⟨r, hc.1, oc r rfl⟩
            · rw [if_neg m] at ev
              cases ev
        · obtain rfl : kind = 7 := by omega
          rw [due_7] at ev
          cases ev
/-- what is due, row by row -/
theorem due_row {kind : Int} {x y z : V} {ws : List Str} {d : PyData} {c : Ar} (k4 : kind ≤ 4) (h : ∀ v, dueOf kind x (.bk ws) y (.dat d) z c ≠ some (1, v)) : faultD d = none := by
  cases f : faultD d with
  | none => rfl
  | some i => exact absurd (due_w1 k4 f) (h _)
theorem nm_shaped : ∀ n, SeqAt.shaped (.list [.str (nm n)]) = true
  | 0 => by decide +kernel
  | 1 => by decide +kernel
  | 2 => by decide +kernel
  | 3 => by decide +kernel
  | n + 4 => (by decide +kernel : SeqAt.shaped (.list [.str "many"]) = true)
theorem in_due : ∀ n, ([PyData.str "told", .list [.str "many"]].any fun z => PyData.eqv z (.list [.str (nm n)])) = decide (4 ≤ n)
  | 0 => by decide +kernel
  | 1 => by decide +kernel
  | 2 => by decide +kernel
  | 3 => by decide +kernel
  | n + 4 => by
    rw [decide_eq_true (by omega)]
    exact (by decide +kernel : ([PyData.str "told", .list [.str "many"]].any fun z => PyData.eqv z (.list [.str "many"])) = true)
theorem neDv {H : Hp} {x y : V} {d : PyData} {Q : VK} (h1 : Dp K H x d) (h2 : Dp K H y d) (h : SeqAt.shaped d = true) (q : Q (.bl false) H) : rNeD K x y H Q := by
  refine ⟨_, _, h1, h2, h, h, ?_⟩
  rw [SeqAt.eqv_refl _ (SeqAt.canLay_of_shaped h)]
  exact q
theorem du_both {t p q : Addr} {H : Hp} {o : Option (Nat × V)} (h1 : DuAt H p o) (h2 : DuAt H q o) (hv : ∀ n v, o = some (n, v) → ∃ d, Ri.Dd H t v d ∧ Od d) : ∃ (x0 y0 v : V) (d : PyData), H p = some (.tup [x0, v]) ∧ H q = some (.tup [y0, v]) ∧ Ri.Dd H t v d ∧ Od d ∧ ∀ Q : VK, Q (.bl false) H → rNeD K y0 x0 H Q := by
  match o, h1, h2 with
  | none, h1, h2 => exact ⟨_, _, _, .none, h1, h2, .non, .inl (by simp [oddD]), fun Q k => neDv (d := .str "told") (.str _) (.str _) (by decide +kernel) k⟩
  | some (n, v), ⟨l1, g1, e1⟩, ⟨l2, g2, e2⟩ =>
    obtain ⟨d, dd, od⟩ := hv n v rfl
    exact ⟨_, _, _, d, g1, g2, dd, od, fun Q k => neDv (.lst (.of e2) (.cons (.str _) .nil)) (.lst (.of e1) (.cons (.str _) .nil)) (nm_shaped n) k⟩
def sp_law (K : PySem.W.Frag) (tt : List (Addr × Str)) : Sp := fun vs H Q _ => ∃ (a : Addr) (ns : List Int), vs = [.ref a] ∧ SqL K H a (ns.map V.int) ∧ ns.length ≤ 63 ∧ LamX.Tabs tt H ∧ ∀ H', Q (.bl true) H'
theorem ok_law (T : Txt K mg) (TB : ∀ p ∈ CS T, LamX.TabB base mg p.1 p.2) : Rg.FnG P w K mg base CX0 9 T.f_law T.fd_law ["_law_script"] (sp_law K (TT T)) := by
  refine Rg.okG T.F_law sc_law (fun vs H Q E h => ?_) (fun cdv A outer s H vs Q E gd hr h => ?_)
  · obtain ⟨a, ns, rfl, _⟩ := h
    rfl
  · obtain ⟨a, ns, rfl, hS, hlen, tb, k⟩ := h
    refine ⟨_, (pss_cons (ps_set (i := 1) sc_law.nd rfl (.inr rfl) (pe_call (ok_l_tape T) (hr.mono (by decide)) rfl T.g_l_tape T.F_l_tape.kp T.b_l_tape .nil pass0 (pa_cons (pv 0) pa_nil)))
  (pss_cons (ps_set (i := 2) sc_law.nd rfl (.inl rfl) (pe_cmpR op_eq (pe_call (ok_l_pick T) (hr.mono (by decide)) rfl T.g_l_pick T.F_l_pick.kp T.b_l_pick .nil pass0 (pa_cons (pv 1) (pa_cons pe_int pa_nil))) pe_int (nomark _)))
  (pss_cons (ps_set (i := 3) sc_law.nd rfl (.inl rfl) (pe_call (ok_l_pick T) (hr.mono (by decide)) rfl T.g_l_pick T.F_l_pick.kp T.b_l_pick .nil pass0 (pa_cons (pv 1) (pa_cons pe_int pa_nil))))
  (pss_cons (ps_set (i := 4) sc_law.nd rfl (.inr rfl) (pe_call (ok_l_letters T) (hr.mono (by decide)) rfl T.g_l_letters T.F_l_letters.kp T.b_l_letters .nil pass0 (pa_cons (pv 1) pa_nil)))
  (pss_cons (ps_set (i := 5) sc_law.nd rfl (.inl rfl) (pe_call (ok_l_word T) (hr.mono (by decide)) rfl T.g_l_word T.F_l_word.kp T.b_l_word .nil pass0 (pa_cons (pv 1) (pa_cons (pv 4) (pa_cons pe_int (pa_cons pe_int pa_nil))))))
  (pss_cons (ps_set (i := 6) sc_law.nd rfl (.inl rfl) (pe_call (ok_l_watches T) (hr.mono (by decide)) rfl T.g_l_watches T.F_l_watches.kp T.b_l_watches .nil pass0 (pa_cons (pv 1) (pa_cons (pv 5) (pa_cons (pv 4) (pa_cons pe_int pa_nil))))))
  (C8.pss_cut (ps_if (pt_val (pv 2))
  (pss_one (ps_setLc (i := 6) (own := [("_law_k", 17)]) (g := gName 17) (tt := tYes) rfl sc_law.nd rfl rfl (sw_true rfl rfl rfl (by decide +kernel)) (pi_range1 rfl T.n_range (pa_cons (pe_op op_add pe_int (pe_call (ok_l_pick T) (hr.mono (by decide)) rfl T.g_l_pick T.F_l_pick.kp T.b_l_pick .nil pass0 (pa_cons (pv 1) (pa_cons pe_int pa_nil)))) pa_nil)) (blkOk_by (own := [("_law_k", 17)]) (N := ["_law_script", "_law_tape_here", "_law_great", "_law_spoil", "_law_letters_here", "_law_word_here", "_law_watches_here", "_law_words", "_law_book", "_law_other", "_law_most", "_law_kept", "_law_kind", "_law_thing", "_law_more", "_law_due_here", "_law_found", "_law_k"]) (sc := defScope s_law) (by decide +kernel)) (fun _ _ _ _ _ => (pg_name (i := 17) sc_law.nd rfl (.inl rfl))) (fun _ _ _ _ _ => pts_nil) (fun _ _ _ _ _ => (pe_slice sl_str (pe_op Rx.o_repS (pe_ix ix_str (pv 4) pe_int (fun _ _ => rfl)) pe_int) po_none (po_some (pe_op op_add pe_int (pv 17)))))))
  pss_nil)
  (pss_cons (ps_set (i := 7) sc_law.nd rfl (.inl rfl) (pe_op op_cat (pe_lst (pa_cons (pv 5) pa_nil)) (pe_lc (own := [("_law_k", 17)]) (g := gName 17) (tt := tYes) rfl sc_law.nd (pi_range1 rfl T.n_range (pa_cons (pe_call (ok_l_pick T) (hr.mono (by decide)) rfl T.g_l_pick T.F_l_pick.kp T.b_l_pick .nil pass0 (pa_cons (pv 1) (pa_cons pe_int pa_nil))) pa_nil)) (blkOk_by (own := [("_law_k", 17)]) (N := ["_law_script", "_law_tape_here", "_law_great", "_law_spoil", "_law_letters_here", "_law_word_here", "_law_watches_here", "_law_words", "_law_book", "_law_other", "_law_most", "_law_kept", "_law_kind", "_law_thing", "_law_more", "_law_due_here", "_law_found", "_law_k"]) (sc := defScope s_law) (by decide +kernel)) (fun _ _ _ _ _ => (pg_name (i := 17) sc_law.nd rfl (.inl rfl))) (fun _ _ _ _ _ => pts_nil) (fun _ _ _ _ _ => (pe_call (ok_l_word T) (hr.mono (by decide)) rfl T.g_l_word T.F_l_word.kp T.b_l_word .nil pass0 (pa_cons (pv 1) (pa_cons (pv 4) (pa_cons pe_int (pa_cons pe_int pa_nil)))))))))
  (pss_cons (ps_set (i := 8) sc_law.nd rfl (.inl rfl) (pe_make T.M_Book (ok_Book_init T) (hr.mono (by decide)) rfl T.c_Book T.b_Book_init .nil passL (pa_cons (pv 6) pa_nil)))
  (pss_cons (ps_set (i := 9) sc_law.nd rfl (.inl rfl) (pe_make T.M_Book (ok_Book_init T) (hr.mono (by decide)) rfl T.c_Book T.b_Book_init .nil passL (pa_cons (pe_lst (pa_cons (pe_slice sl_str (pv 5) po_none (po_some pe_int)) pa_nil)) pa_nil)))
  (pss_cons (ps_set (i := 10) sc_law.nd rfl (.inl rfl) (pe_op op_add pe_int (pe_call (ok_l_pick T) (hr.mono (by decide)) rfl T.g_l_pick T.F_l_pick.kp T.b_l_pick .nil pass0 (pa_cons (pv 1) (pa_cons pe_int pa_nil)))))
  (C8.pss_cut (ps_if (PW.pt (pw_or (pt_cmpR op_eq (pv 3) pe_int (nomark _)) (pw_or1 (pt_cmpR op_eq (pv 3) pe_int (nomark _)))))
  (pss_one (ps_set (i := 7) sc_law.nd rfl (.inl rfl) (pe_call (ok_l_bad_words T) (hr.mono (by decide)) rfl T.g_l_bad_words T.F_l_bad_words.kp T.b_l_bad_words .nil pass0 (pa_cons (pv 1) (pa_cons (pv 7) pa_nil)))))
  pss_nil)
  (C8.pss_cut (ps_if (PW.pt (pw_or (pt_cmpR op_eq (pv 3) pe_int (nomark _)) (pw_or (pt_cmpR op_eq (pv 3) pe_int (nomark _)) (pw_or1 (pt_cmpR op_eq (pv 3) pe_int (nomark _))))))
  (pss_one (ps_set (i := 8) sc_law.nd rfl (.inl rfl) (pe_call (ok_l_odd T) (hr.mono (by decide)) rfl T.g_l_odd T.F_l_odd.kp T.b_l_odd .nil pass0 (pa_cons (pv 1) pa_nil))))
  pss_nil)
  (C8.pss_cut (ps_if (PW.pt (pw_or (pt_cmpR op_eq (pv 3) pe_int (nomark _)) (pw_or1 (pt_cmpR op_eq (pv 3) pe_int (nomark _)))))
  (pss_one (ps_set (i := 9) sc_law.nd rfl (.inl rfl) (pe_call (ok_l_odd T) (hr.mono (by decide)) rfl T.g_l_odd T.F_l_odd.kp T.b_l_odd .nil pass0 (pa_cons (pv 1) pa_nil))))
  pss_nil)
  (C8.pss_cut (ps_if (PW.pt (pw_or (pt_cmpR op_eq (pv 3) pe_int (nomark _)) (pw_or1 (pt_cmpR op_eq (pv 3) pe_int (nomark _)))))
  (pss_one (ps_set (i := 4) sc_law.nd rfl (.inr rfl) (pe_ix (r := rIxL K) ix_list (pe_lst (pa_cons (pe_call (ok_l_odd T) (hr.mono (by decide)) rfl T.g_l_odd T.F_l_odd.kp T.b_l_odd .nil pass0 (pa_cons (pv 1) pa_nil)) (pa_cons (pe_op Rd.o_addS (pv 4) (pe_ix ix_str (pv 4) pe_int (fun _ _ => rfl))) (pa_cons pe_str (pa_cons pe_str pa_nil))))) (pe_call (ok_l_pick T) (hr.mono (by decide)) rfl T.g_l_pick T.F_l_pick.kp T.b_l_pick .nil pass0 (pa_cons (pv 1) (pa_cons pe_int pa_nil))) (fun _ _ => rfl))))
  pss_nil)
  (C8.pss_cut (ps_if (PW.pt (pw_or (pt_cmpR op_eq (pv 3) pe_int (nomark _)) (pw_or1 (pt_cmpR op_eq (pv 3) pe_int (nomark _)))))
  (pss_one (ps_set (i := 10) sc_law.nd rfl (.inl rfl) (pe_ix (r := rIxL K) ix_list (pe_lst (pa_cons pe_int (pa_cons pe_int (pa_cons pe_int (pa_cons (pe_call (ok_l_odd T) (hr.mono (by decide)) rfl T.g_l_odd T.F_l_odd.kp T.b_l_odd .nil pass0 (pa_cons (pv 1) pa_nil)) pa_nil))))) (pe_call (ok_l_pick T) (hr.mono (by decide)) rfl T.g_l_pick T.F_l_pick.kp T.b_l_pick .nil pass0 (pa_cons (pv 1) (pa_cons pe_int pa_nil))) (fun _ _ => rfl))))
  pss_nil)
  (pss_cons (ps_set (i := 11) sc_law.nd rfl (.inl rfl) (pe_callB (id := "repr") (r := Ri.rReprA) (Ri.cr_reprA gd (Rg.u101 hr)) (by rfl) T.n_repr (by decide +kernel) (pa_cons (pv 7) pa_nil)))
  (pss_cons (ps_for PassesOwn.never rfl (pi_range1 rfl T.n_range (pa_cons pe_int pa_nil)) (pg_name (i := 12) sc_law.nd rfl (.inl rfl))
  (pss_cons (ps_set (i := 13) sc_law.nd rfl (.inl rfl) (pv 7))
  (pss_cons (ps_set (i := 14) sc_law.nd rfl (.inl rfl) (pe_tup pa_nil))
  (C8.pss_cut (ps_if (PW.pt (pw_or (pt_cmpR op_eq (pv 12) pe_int (nomark _)) (pw_or1 (pt_cmpR op_eq (pv 12) pe_int (nomark _)))))
  (pss_one (ps_set (i := 13) sc_law.nd rfl (.inl rfl) (pv 9)))
  pss_nil)
  (C8.pss_cut (ps_if (pt_cmpR op_eq (pv 12) pe_int (nomark _))
  (pss_cons (ps_set (i := 13) sc_law.nd rfl (.inl rfl) (pv 4))
  (pss_one (ps_set (i := 14) sc_law.nd rfl (.inl rfl) (pv 10))))
  pss_nil)
  (pss_cons (ps_set (i := 15) sc_law.nd rfl (.inl rfl) (pe_call (ok_l_due T) (hr.mono (by decide)) rfl T.g_l_due T.F_l_due.kp T.b_l_due .nil pass0 (pa_cons (pv 12) (pa_cons (pv 8) (pa_cons (pv 13) (pa_cons (pv 14) pa_nil))))))
  (C8.pss_cut (ps_if (PW.pt (pw_and (pt_cmpR op_gt (pv 12) pe_int (nomark _)) (pw_and (pt_cmpR op_le (pv 12) pe_int (nomark _)) (pw_and (pt_cmpR (r := rInD K) (op_inD (Rk.u65 hr)) (pe_ix (r := rIxT K) ix_tup (pv 15) pe_int (fun _ _ => rfl)) (pe_lst (pa_cons pe_str (pa_cons (pe_lst (pa_cons pe_str pa_nil)) pa_nil))) (by rfl)) (pw_and1 (pt_cmpR op_gt (pe_callB (id := "len") (r := Rd.nLen K) Rd.c_len (by rfl) T.n_len (by decide +kernel) (pa_cons (pv 7) pa_nil)) pe_int (nomark _)))))))
  (pss_one ps_continue)
  pss_nil)
  (pss_cons (ps_set (i := 16) sc_law.nd rfl (.inl rfl) (pe_call (ok_l_tried T TB) (hr.mono (by decide)) rfl T.g_l_tried T.F_l_tried.kp T.b_l_tried .nil pass0 (pa_cons (pv 12) (pa_cons (pv 8) (pa_cons (pv 13) (pa_cons (pv 14) pa_nil))))))
  (pss_one (ps_if (PW.pt (pw_or (pt_cmpR (r := rNeD K) (op_neD hr.units) (pe_ix (r := rIxT K) ix_tup (pv 16) pe_int (fun _ _ => rfl)) (pe_ix (r := rIxT K) ix_tup (pv 15) pe_int (fun _ _ => rfl)) (nomark _)) (pw_or (pt_cmpR (r := NeS K) (Ro.op_or op_ne (Ro.op_or (Rx.op_neX (Rx.u66 hr)) (Ro.op_or (Bw.op_neL (Rx.u66 hr)) (op_ne_dictA hr.units0)))) (pe_ix (r := rIxT K) ix_tup (pv 16) pe_int (fun _ _ => rfl)) (pe_ix (r := rIxT K) ix_tup (pv 15) pe_int (fun _ _ => rfl)) (nomark _)) (pw_or1 (pt_cmpR op_ne (pe_callB (id := "isinstance") (r := rIsi K) call_isi (by rfl) T.n_isinstance (by decide +kernel) (pa_cons (pe_ix (r := rIxT K) ix_tup (pv 16) pe_int (fun _ _ => rfl)) (pa_cons (pe_bltn (v := .ty "bool") (u := .type "bool") (by rfl) T.n_bool (by decide +kernel) rfl) pa_nil))) (pe_callB (id := "isinstance") (r := rIsi K) call_isi (by rfl) T.n_isinstance (by decide +kernel) (pa_cons (pe_ix (r := rIxT K) ix_tup (pv 15) pe_int (fun _ _ => rfl)) (pa_cons (pe_bltn (v := .ty "bool") (u := .type "bool") (by rfl) T.n_bool (by decide +kernel) rfl) pa_nil))) (nomark _))))))
  (pss_one (ps_ret pe_bl))
  pss_nil))))))))))
  (pss_one (ps_ret (pe_cmpR op_eq (pe_callB (id := "repr") (r := Ri.rReprA) (Ri.cr_reprA gd (Rg.u101 hr)) (by rfl) T.n_repr (by decide +kernel) (pa_cons (pv 7) pa_nil)) (pv 11) (nomark _)))))))))))))))))))))), ?_⟩
    walk_at "rd"
    refine ⟨a, ns, rfl, hS, fun t c H1 tp1 s01 nt nc => ?_⟩
    have tb1 := tabs_same s01 tb
    walk_at "rd"
    refine pickR tp1 (by decide) (by decide) fun g H2 g0 g1 tp2 b2 => ?_
    have tb2 := tabs_but tp1 b2 tb1
    walk_at "rd"
    refine pickR tp2 (by decide) (by decide) fun sp H3 sp0 sp1 tp3 b3 => ?_
    have tb3 := tabs_but tp2 b3 tb2
    walk_at "rd"
    refine ⟨t, c, rfl, tp3, fun L H4 hL L1 L3 tp4 b4 => ?_⟩
    have tb4 := tabs_but tp3 b4 tb3
    walk_at "rd"
    refine ⟨t, c, L, 1, 8, rfl, tp4, hL, L1, by omega, by decide, by decide, by decide, fun z H5 hz z1 z8 tp5 b5 => ?_⟩
    have tb5 := tabs_but tp4 b5 tb4
    walk_at "rd"
    refine ⟨t, c, z, L, 6, rfl, tp5, hz, by omega, by omega, hL, L1, by omega, by decide, by decide, fun la ws H6 tp6 b6 nla gla W w6 => ?_⟩
    have tb6 := tabs_but tp5 b6 tb5
    have lat := (tp5.new nla).1
    clear tb1 tb2 tb3 tb4 tb5 tp1 tp2 tp3 tp4 tp5 b2 b3 b4 b5 b6 nla w6 s01 nc hS
    walk_at "rd"
    refine Rd.cut (fun σ H' => ∃ (la : Addr) (ws : List Str), σ = [some (.ref a), some (.ref t), some (.bl (decide (g = 0))), some (.int sp), some (.str L), some (.str z), some (.ref la), none, none, none, none, none, none, none, none, none, none, none] ∧ Tape H' t c ∧ LamX.Tabs (TT T) H' ∧ la ≠ t ∧ H' la = some (.lst (ws.map V.str)) ∧ Watches ws) ?_ ?_
    · walk_at "rd"
      have L0 : ∃ cc, L.cps.toList[0]? = some cc := ⟨_, List.getElem?_eq_getElem (by rw [Array.length_toList]; exact L1)⟩
      obtain ⟨cc, hcc⟩ := L0
      have cabc : cc ∈ Lt.Abc.cps.toList := hL cc (List.mem_of_getElem? hcc)
      refine ite2 (fun c0 => ?_) (fun c0 => ?_)
      · walk_at "rd"
        refine pickR tp6 (by decide) (by decide) fun r H7 r0 r1 tp7 b7 => ?_
        walk_at "rd"
        refine ⟨by omega, by omega, ?_⟩
        refine lcT walk_range tp7 (fun _ _ => trivial) (fun D i acc _ => acc = ((List.range i).map fun (k : Nat) => cutS (Txt.mul ⟨#[cc]⟩ (12 : Int)) none (some (1 + (k : Int)))).map V.str) (fun _ _ _ _ _ => rfl) ?_ ?_
        · rintro D i x G _ acc nD hi hD tpG bG rfl ⟨rfl, rfl⟩
          walk_at "rd"
          refine ⟨rfl, ?_⟩
          walk_at "rd"
          refine Rd.ixS (by rw [sizeLine_eq]; omega) (Rd.atI_of (by decide) hcc) ?_
          walk_at "rd"
          refine Rx.repS (mul_ok (y := ⟨#[cc]⟩) (n := 12) (Nat.le_of_ble_eq_true rfl) (by decide)) ?_
          walk_at "rd"
          have ml : (Txt.mul (⟨#[cc]⟩ : Str) (12 : Int)).length = 12 := mul_ln ⟨#[cc]⟩ 12
          refine Rd.slS (by rw [ml, sizeLine_eq]; decide) ?_
          refine lcPuT hD nD tp7 tpG bG (by rw [List.length_map, List.length_map, List.length_range, sizeLine_eq]; omega) fun G2 g2 off2 => ?_
          rw [List.range_succ, List.map_append, List.map_append, show (0 + (i : Int)) = ((i : Nat) : Int) by omega]
          rfl
        · rintro D acc H8 nD hD tp8 b8 rfl
          walk_at "rd"
          exact ⟨D, _, rfl, tp8, tabs_but tp6 (b7.trans b8) tb6, (tp7.new nD).1, hD, great_watches cabc (by omega)⟩
      · walk_at "rd"
        exact ⟨la, ws, rfl, tp6, tb6, lat, gla, W⟩
    clear lat gla W tb6 tp6
    rintro _ H7 ⟨la, ws, rfl, tp7, tb7, lat, gla, W⟩
    walk_at "rd"
    refine ⟨Nat.le_of_ble_eq_true rfl, Rd.new fun l1 H8 nl1 gl1 s8 => ?_⟩
    have tp8 := tp7.same s8
    have tb8 := tabs_same s8 tb7
    have l1t := (tp7.new nl1).1
    have gla8 := s8 _ _ gla
    walk_at "rd"
    refine pickR tp8 (by decide) (by decide) fun r H9 r0 r1 tp9 b9 => ?_
    walk_at "rd"
    refine ⟨by omega, by omega, ?_⟩
    refine lcT walk_range tp9 (fun _ _ => trivial) (fun D i acc _ => ∃ us : List Str, acc = us.map V.str ∧ us.length = i ∧ ∀ u ∈ us, Lt.Wd 12 u) (fun _ _ _ _ _ => ⟨[], rfl, rfl, fun x m => nomatch m⟩) ?_ ?_
    · rintro D i x G _ acc nD hi hD tpG bG ⟨us, rfl, ul, uw⟩ ⟨rfl, rfl⟩
      have Dt := (tp9.new nD).1
      walk_at "rd"
      refine ⟨rfl, ?_⟩
      walk_at "rd"
      refine ⟨t, c, L, 1, 5, rfl, tpG, hL, L1, by omega, by decide, by decide, by decide, fun y G2 hy y1 y5 tp2 b2 => ?_⟩
      refine lcPuT (b2 _ _ Dt hD) nD tp9 tp2 (bG.trans b2) (by rw [List.length_map, sizeLine_eq]; omega) fun G3 g3 off3 => ?_
      refine ⟨us ++ [y], by rw [List.map_append]; rfl, by rw [List.length_append, ul]; rfl, fun u m => ?_⟩
      rcases List.mem_append.mp m with m | m
      · exact uw u m
      · rw [List.mem_singleton.mp m]
        exact ⟨hy, by omega, by omega⟩
    rintro D acc H10 nD hD tp10 b10 ⟨us, rfl, ul, uw⟩
    have b810 := b9.trans b10
    have gl10 := b810 _ _ l1t gl1
    have gla10 := b810 _ _ lat gla8
    have tb10 := tabs_but tp8 b810 tb8
    walk_at "rd"
    refine Rd.cat gl10 hD (by rw [List.length_map, sizeLine_eq, List.length_singleton]; omega) (Rd.new fun lw H11 nlw glw s11 => ?_)
    have tp11 := tp10.same s11
    have lwt := (tp10.new nlw).1
    have tb11 := tabs_same s11 tb10
    have gla11 := s11 _ _ gla10
    replace glw : H11 lw = some (.lst ((z :: us).map V.str)) := glw
    have hz12 : ∀ y ∈ z :: us, Lt.Wd 12 y := fun y m => by
      rcases List.mem_cons.mp m with rfl | m
      · exact ⟨hz, by omega, by omega⟩
      · exact uw y m
    have zl : (z :: us).length ≤ 8 := by rw [List.length_cons, ul]; omega
    generalize z :: us = zs at glw hz12 zl
    clear gl10 gla10 tp10 tb10 hD b10 b9 b810 nD nl1 gl1 gla8 tp8 tb8 s8 gla tp7 tb7 tp9 uw
    walk_at "rd"
    refine mkBk (.inl (.of gla11)) W fun bk H12 hB s12 => ?_
    walk_at "rd"
    refine Rd.slS (by rw [sizeLine_eq]; omega) ?_
    walk_at "rd"
    refine ⟨Nat.le_of_ble_eq_true rfl, Rd.new fun l2 H13 nl2 gl2 s13 => ?_⟩
    walk_at "rd"
    have W2 : Watches [cutS z none (some 12)] := by
      have e := Lt.cut_to (z := z) (b := 12) (by omega)
      refine ⟨by simp, by simp, fun y m => ?_⟩
      rw [List.mem_singleton.mp m]
      exact ⟨hz.cut _ _, by omega, by omega⟩
    refine mkBk (ws := [cutS z none (some 12)]) (.inl (.of gl2)) W2 fun ot H14 hO s14 => ?_
    have s1114 := (s12.trans s13).trans s14
    have glw14 := s1114 _ _ glw
    have tp14 := tp11.same s1114
    walk_at "rd"
    refine pickR tp14 (by decide) (by decide) fun m H15 m0 m1 tp15 b15 => ?_
    have glw15 := b15 _ _ lwt glw14
    have sc : Sc T t c (.ref bk) (.bk ws) (.ref ot) (.bk [cutS z none (some 12)]) (.str L) (.str L) (.int (1 + m)) (.int (1 + m)) (.ref lw) (.list (zs.map PyData.str)) H15 :=
      Sc.but tp15 b15 ⟨tp14, tabs_same s1114 tb11, ⟨bk, rfl, (hB.same s13).same s14, W⟩, ⟨ot, rfl, hO, W2⟩, .str L, .int _, .lst lwt glw14 (.strs zs)⟩
    have wd0 : Wds (.list (zs.map PyData.str)) := lst_wds (by rw [List.length_map]; omega) (strs_it hz12)
    clear s12 s13 s14 s1114 tp11 tb11 gla11 glw glw14 tp14 hB hO gl2 nl2 nlw
    walk_at "rd"
    refine Rd.cut (fun σ H' => ∃ (w : V) (wd : PyData), σ = [some (.ref a), some (.ref t), some (.bl (decide (g = 0))), some (.int sp), some (.str L), some (.str z), some (.ref la), some w, some (.ref bk), some (.ref ot), some (.int (1 + m)), none, none, none, none, none, none, none] ∧ Sc T t c (.ref bk) (.bk ws) (.ref ot) (.bk [cutS z none (some 12)]) (.str L) (.str L) (.int (1 + m)) (.int (1 + m)) w wd H' ∧ Wds wd) ?_ ?_
    · walk_at "rd"
      refine ite2 (fun _ => ?_) (fun _ => ?_)
      · walk_at "rd"
        exact ⟨t, c, lw, zs, rfl, sc.tp, lwt, glw15, zl, hz12, fun w wd H1 dd ww tp b => let q := sc.but tp b; ⟨w, wd, rfl, ⟨q.tp, q.tb, q.hx, q.hy, q.hl, q.hz, dd⟩, ww⟩⟩
      walk_at "rd"
      refine ite2 (fun _ => ?_) (fun _ => ?_)
      · walk_at "rd"
        exact ⟨t, c, lw, zs, rfl, sc.tp, lwt, glw15, zl, hz12, fun w wd H1 dd ww tp b => let q := sc.but tp b; ⟨w, wd, rfl, ⟨q.tp, q.tb, q.hx, q.hy, q.hl, q.hz, dd⟩, ww⟩⟩
      walk_at "rd"
      exact ⟨_, _, rfl, sc, wd0⟩
    clear sc wd0 glw15 hz12 lwt zl
    rintro _ H16 ⟨w, wd, rfl, sc, ww⟩
    walk_at "rd"
    refine Rd.cut (fun σ H' => ∃ (X : V) (A : Ar), σ = [some (.ref a), some (.ref t), some (.bl (decide (g = 0))), some (.int sp), some (.str L), some (.str z), some (.ref la), some w, some X, some (.ref ot), some (.int (1 + m)), none, none, none, none, none, none, none] ∧ Sc T t c X A (.ref ot) (.bk [cutS z none (some 12)]) (.str L) (.str L) (.int (1 + m)) (.int (1 + m)) w wd H' ∧ ∀ q, A = .dat q → Od q) ?_ ?_
    · walk_at "rd"
      refine ite2 (fun _ => ?_) (fun _ => ?_)
      · walk_at "rd"
        exact ⟨t, c, rfl, sc.tp, fun x d H1 m dd tp b => let q := sc.but tp b; ⟨x, .dat d, rfl, ⟨q.tp, q.tb, ⟨dd, odd_sm d m⟩, q.hy, q.hl, q.hz, q.hw⟩, fun q e => by cases e; exact .inl m⟩⟩
      walk_at "rd"
      refine ite2 (fun _ => ?_) (fun _ => ?_)
      · walk_at "rd"
        exact ⟨t, c, rfl, sc.tp, fun x d H1 m dd tp b => let q := sc.but tp b; ⟨x, .dat d, rfl, ⟨q.tp, q.tb, ⟨dd, odd_sm d m⟩, q.hy, q.hl, q.hz, q.hw⟩, fun q e => by cases e; exact .inl m⟩⟩
      walk_at "rd"
      refine ite2 (fun _ => ?_) (fun _ => ?_)
      · walk_at "rd"
        exact ⟨t, c, rfl, sc.tp, fun x d H1 m dd tp b => let q := sc.but tp b; ⟨x, .dat d, rfl, ⟨q.tp, q.tb, ⟨dd, odd_sm d m⟩, q.hy, q.hl, q.hz, q.hw⟩, fun q e => by cases e; exact .inl m⟩⟩
      walk_at "rd"
      exact ⟨_, _, rfl, sc, fun q e => nomatch e⟩
    clear sc
    rintro _ H17 ⟨X, A, rfl, sc, oA⟩
    walk_at "rd"
    refine Rd.cut (fun σ H' => ∃ (Y : V) (B : Ar), σ = [some (.ref a), some (.ref t), some (.bl (decide (g = 0))), some (.int sp), some (.str L), some (.str z), some (.ref la), some w, some X, some Y, some (.int (1 + m)), none, none, none, none, none, none, none] ∧ Sc T t c X A Y B (.str L) (.str L) (.int (1 + m)) (.int (1 + m)) w wd H' ∧ ∀ q, B = .dat q → Od q) ?_ ?_
    · walk_at "rd"
      refine ite2 (fun _ => ?_) (fun _ => ?_)
      · walk_at "rd"
        exact ⟨t, c, rfl, sc.tp, fun x d H1 m dd tp b => let q := sc.but tp b; ⟨x, .dat d, rfl, ⟨q.tp, q.tb, q.hx, ⟨dd, odd_sm d m⟩, q.hl, q.hz, q.hw⟩, fun q e => by cases e; exact .inl m⟩⟩
      walk_at "rd"
      refine ite2 (fun _ => ?_) (fun _ => ?_)
      · walk_at "rd"
        exact ⟨t, c, rfl, sc.tp, fun x d H1 m dd tp b => let q := sc.but tp b; ⟨x, .dat d, rfl, ⟨q.tp, q.tb, q.hx, ⟨dd, odd_sm d m⟩, q.hl, q.hz, q.hw⟩, fun q e => by cases e; exact .inl m⟩⟩
      walk_at "rd"
      exact ⟨_, _, rfl, sc, fun q e => nomatch e⟩
    clear sc
    rintro _ H18 ⟨Y, B, rfl, sc, oB⟩
    walk_at "rd"
    obtain ⟨cc, hcc⟩ : ∃ cc, L.cps.toList[0]? = some cc := ⟨_, List.getElem?_eq_getElem (by rw [Array.length_toList]; exact L1)⟩
    refine Rd.cut (fun σ H' => ∃ (U : V) (d : PyData), σ = [some (.ref a), some (.ref t), some (.bl (decide (g = 0))), some (.int sp), some U, some (.str z), some (.ref la), some w, some X, some Y, some (.int (1 + m)), none, none, none, none, none, none, none] ∧ Sc T t c X A Y B U d (.int (1 + m)) (.int (1 + m)) w wd H' ∧ Od d) ?_ ?_
    · walk_at "rd"
      refine ite2 (fun _ => ?_) (fun _ => ?_)
      · walk_at "rd"
        refine ⟨t, c, rfl, sc.tp, fun x d H1 m dd tp b => ?_⟩
        walk_at "rd"
        refine Rd.ixS (by rw [sizeLine_eq]; omega) (Rd.atI_of (by decide) hcc) ?_
        refine Rd.addS (by have : (⟨#[cc]⟩ : Str).length = 1 := rfl; rw [sizeLine_eq]; omega) ?_
        walk_at "rd"
        refine ⟨Nat.le_of_ble_eq_true rfl, Rd.new fun l3 G1 n3 g3 s3 => ?_⟩
        have q1 := (sc.but tp b).same s3
        walk_at "rd"
        refine pickR q1.tp (by decide) (by decide) fun r5 G2 r50 r51 tp5 b5 => ?_
        have q2 := q1.but tp5 b5
        have g5 := b5 _ _ (tp.new n3).1 g3
        have al : Ri.DdAll G2 t [x, .str (L ++ ⟨#[cc]⟩), .str "abcd", .str ""] [d, .str (L ++ ⟨#[cc]⟩), .str "abcd", .str ""] := .cons ((dd.same s3).but b5) (.cons (.str _) (.cons (.str _) (.cons (.str _) .nil)))
        obtain ⟨v, hv⟩ : ∃ v, ([x, .str (L ++ ⟨#[cc]⟩), .str "abcd", .str ""])[r5.toNat]? = some v := ⟨_, List.getElem?_eq_getElem (show r5.toNat < 4 by omega)⟩
        obtain ⟨dv, hdv, ddv⟩ := al.get hv
        have odv : Od dv := by
          have m := List.mem_of_getElem? hdv
          simp only [List.mem_cons, List.not_mem_nil, or_false] at m
          rcases m with rfl | rfl | rfl | rfl
          · exact .inl (by assumption)
          · exact .inr (.inl ⟨_, by rw [Lt.len_app]; have : (⟨#[cc]⟩ : Str).length = 1 := rfl; omega, rfl⟩)
          · exact .inr (.inl ⟨_, by decide, rfl⟩)
          · exact .inr (.inl ⟨_, by decide, rfl⟩)
        refine Rd.ixL (.of g5) (Rd.atI_of r50 hv) ?_
        walk_at "rd"
        exact ⟨v, dv, rfl, ⟨q2.tp, q2.tb, q2.hx, q2.hy, ddv, q2.hz, q2.hw⟩, odv⟩
      walk_at "rd"
      refine ite2 (fun _ => ?_) (fun _ => ?_)
      · walk_at "rd"
        refine ⟨t, c, rfl, sc.tp, fun x d H1 m dd tp b => ?_⟩
        walk_at "rd"
        refine Rd.ixS (by rw [sizeLine_eq]; omega) (Rd.atI_of (by decide) hcc) ?_
        refine Rd.addS (by have : (⟨#[cc]⟩ : Str).length = 1 := rfl; rw [sizeLine_eq]; omega) ?_
        walk_at "rd"
        refine ⟨Nat.le_of_ble_eq_true rfl, Rd.new fun l3 G1 n3 g3 s3 => ?_⟩
        have q1 := (sc.but tp b).same s3
        walk_at "rd"
        refine pickR q1.tp (by decide) (by decide) fun r5 G2 r50 r51 tp5 b5 => ?_
        have q2 := q1.but tp5 b5
        have g5 := b5 _ _ (tp.new n3).1 g3
        have al : Ri.DdAll G2 t [x, .str (L ++ ⟨#[cc]⟩), .str "abcd", .str ""] [d, .str (L ++ ⟨#[cc]⟩), .str "abcd", .str ""] := .cons ((dd.same s3).but b5) (.cons (.str _) (.cons (.str _) (.cons (.str _) .nil)))
        obtain ⟨v, hv⟩ : ∃ v, ([x, .str (L ++ ⟨#[cc]⟩), .str "abcd", .str ""])[r5.toNat]? = some v := ⟨_, List.getElem?_eq_getElem (show r5.toNat < 4 by omega)⟩
        obtain ⟨dv, hdv, ddv⟩ := al.get hv
        have odv : Od dv := by
          have m := List.mem_of_getElem? hdv
          simp only [List.mem_cons, List.not_mem_nil, or_false] at m
          rcases m with rfl | rfl | rfl | rfl
          · exact .inl (by assumption)
          · exact .inr (.inl ⟨_, by rw [Lt.len_app]; have : (⟨#[cc]⟩ : Str).length = 1 := rfl; omega, rfl⟩)
          · exact .inr (.inl ⟨_, by decide, rfl⟩)
          · exact .inr (.inl ⟨_, by decide, rfl⟩)
        refine Rd.ixL (.of g5) (Rd.atI_of r50 hv) ?_
        walk_at "rd"
        exact ⟨v, dv, rfl, ⟨q2.tp, q2.tb, q2.hx, q2.hy, ddv, q2.hz, q2.hw⟩, odv⟩
      walk_at "rd"
      exact ⟨_, _, rfl, sc, .inr (.inl ⟨L, by omega, rfl⟩)⟩
    clear sc
    rintro _ H19 ⟨U, du, rfl, sc, oU⟩
    walk_at "rd"
    refine Rd.cut (fun σ H' => ∃ (M : V) (d : PyData), σ = [some (.ref a), some (.ref t), some (.bl (decide (g = 0))), some (.int sp), some U, some (.str z), some (.ref la), some w, some X, some Y, some M, none, none, none, none, none, none, none] ∧ Sc T t c X A Y B U du M d w wd H' ∧ Od d) ?_ ?_
    · walk_at "rd"
      refine ite2 (fun _ => ?_) (fun _ => ?_)
      · walk_at "rd"
        refine ⟨t, c, rfl, sc.tp, fun x d H1 m dd tp b => ?_⟩
        walk_at "rd"
        refine ⟨Nat.le_of_ble_eq_true rfl, Rd.new fun l3 G1 n3 g3 s3 => ?_⟩
        have q1 := (sc.but tp b).same s3
        walk_at "rd"
        refine pickR q1.tp (by decide) (by decide) fun r5 G2 r50 r51 tp5 b5 => ?_
        have q2 := q1.but tp5 b5
        have g5 := b5 _ _ (tp.new n3).1 g3
        have al : Ri.DdAll G2 t [.int 0, .int 7, .int 8, x] [.int 0, .int 7, .int 8, d] := .cons (.int _) (.cons (.int _) (.cons (.int _) (.cons ((dd.same s3).but b5) .nil)))
        obtain ⟨v, hv⟩ : ∃ v, ([.int 0, .int 7, .int 8, x])[r5.toNat]? = some v := ⟨_, List.getElem?_eq_getElem (show r5.toNat < 4 by omega)⟩
        obtain ⟨dv, hdv, ddv⟩ := al.get hv
        have odv : Od dv := by
          have m := List.mem_of_getElem? hdv
          simp only [List.mem_cons, List.not_mem_nil, or_false] at m
          rcases m with rfl | rfl | rfl | rfl
          · exact ok_intl
          · exact ok_intl
          · exact ok_intl
          · exact .inl (by assumption)
        refine Rd.ixL (.of g5) (Rd.atI_of r50 hv) ?_
        walk_at "rd"
        exact ⟨v, dv, rfl, ⟨q2.tp, q2.tb, q2.hx, q2.hy, q2.hl, ddv, q2.hw⟩, odv⟩
      walk_at "rd"
      refine ite2 (fun _ => ?_) (fun _ => ?_)
      · walk_at "rd"
        refine ⟨t, c, rfl, sc.tp, fun x d H1 m dd tp b => ?_⟩
        walk_at "rd"
        refine ⟨Nat.le_of_ble_eq_true rfl, Rd.new fun l3 G1 n3 g3 s3 => ?_⟩
        have q1 := (sc.but tp b).same s3
        walk_at "rd"
        refine pickR q1.tp (by decide) (by decide) fun r5 G2 r50 r51 tp5 b5 => ?_
        have q2 := q1.but tp5 b5
        have g5 := b5 _ _ (tp.new n3).1 g3
        have al : Ri.DdAll G2 t [.int 0, .int 7, .int 8, x] [.int 0, .int 7, .int 8, d] := .cons (.int _) (.cons (.int _) (.cons (.int _) (.cons ((dd.same s3).but b5) .nil)))
        obtain ⟨v, hv⟩ : ∃ v, ([.int 0, .int 7, .int 8, x])[r5.toNat]? = some v := ⟨_, List.getElem?_eq_getElem (show r5.toNat < 4 by omega)⟩
        obtain ⟨dv, hdv, ddv⟩ := al.get hv
        have odv : Od dv := by
          have m := List.mem_of_getElem? hdv
          simp only [List.mem_cons, List.not_mem_nil, or_false] at m
          rcases m with rfl | rfl | rfl | rfl
          · exact ok_intl
          · exact ok_intl
          · exact ok_intl
          · exact .inl (by assumption)
        refine Rd.ixL (.of g5) (Rd.atI_of r50 hv) ?_
        walk_at "rd"
        exact ⟨v, dv, rfl, ⟨q2.tp, q2.tb, q2.hx, q2.hy, q2.hl, ddv, q2.hw⟩, odv⟩
      walk_at "rd"
      exact ⟨_, _, rfl, sc, ok_intl⟩
    clear sc
    rintro _ H20 ⟨M, dm, rfl, sc, oM⟩
    have sz : wd.shown.length ≤ sizeLine := Nat.le_trans ww.sd.sz (by rw [sizeLine_eq]; decide)
    have dp : wd.depth ≤ 99 := Nat.le_trans ww.sd.dp (by decide)
    walk_at "rd"
    refine ⟨t, w, wd, rfl, sc.hw, ww.sd.sh, dp, sz, ?_⟩
    walk_at "rd"
    refine Rd.forS ?_
    walk_at "rd"
    refine ⟨by decide, by decide, ?_⟩
    refine for_range (lo := 0) (n := 9) (fun i σ H' => ∃ (o12 o13 o14 o15 o16 : Option V), σ = [some (.ref a), some (.ref t), some (.bl (decide (g = 0))), some (.int sp), some U, some (.str z), some (.ref la), some w, some X, some Y, some M, some (.str wd.shown), o12, o13, o14, o15, o16, none] ∧ Sc T t c X A Y B U du M dm w wd H')
      ⟨_, _, _, _, _, rfl, sc⟩ ?_ ?_
    · clear sc
      rintro i _ H21 hi ⟨o12, o13, o14, o15, o16, rfl, sc⟩
      rw [show (0 + (i : Int)) = ((i : Nat) : Int) by omega]
      walk_at "rd"
      refine ⟨Nat.zero_le _, Rd.new fun p G np gp s1 => ?_⟩
      have sc1 := sc.same s1
      have pt := (sc.tp.new np).1
      walk_at "rd"
      refine Rd.cut (fun σ H' => ∃ (y : V) (b : Ar), σ = [some (.ref a), some (.ref t), some (.bl (decide (g = 0))), some (.int sp), some U, some (.str z), some (.ref la), some w, some X, some Y, some M, some (.str wd.shown), some (.int ((i : Nat) : Int)), some y, some (.ref p), o15, o16, none] ∧ G = H' ∧ ArAt T.C_Book G t y b ∧ (i ≠ 5 → i ≠ 6 → b = .dat wd) ∧ (i = 5 ∨ i = 6 → ∀ q, b = .dat q → Od q)) ?_ ?_
      · walk_at "rd"
        refine ite2 (fun c5 => ?_) (fun c5 => ?_)
        · walk_at "rd"
          exact ⟨Y, B, rfl, rfl, sc1.hy, fun n _ => absurd c5 (by omega), fun _ => oB⟩
        walk_at "rd"
        refine ite2 (fun c6 => ?_) (fun c6 => ?_)
        · walk_at "rd"
          exact ⟨Y, B, rfl, rfl, sc1.hy, fun _ n => absurd c6 (by omega), fun _ => oB⟩
        walk_at "rd"
        exact ⟨w, .dat wd, rfl, rfl, ⟨sc1.hw, ww.sm⟩, fun _ _ => rfl, fun h => absurd h (by omega)⟩
      rintro _ _ ⟨y, b, rfl, rfl, hy, b1, b2⟩
      walk_at "rd"
      refine Rd.cut (fun σ H' => ∃ (y zq : V) (b c : Ar), σ = [some (.ref a), some (.ref t), some (.bl (decide (g = 0))), some (.int sp), some U, some (.str z), some (.ref la), some w, some X, some Y, some M, some (.str wd.shown), some (.int ((i : Nat) : Int)), some y, some zq, o15, o16, none] ∧ G = H' ∧ ArAt T.C_Book G t y b ∧ ArAt T.C_Book G t zq c ∧ Cnd (i : Nat) b c ∧ (i ≤ 4 → b = .dat wd) ∧ (5 ≤ ((i : Nat) : Int) → ((i : Nat) : Int) ≠ 7 → ∀ q, b = .dat q → Od q) ∧ ∀ q, c = .dat q → Od q) ?_ ?_
      · walk_at "rd"
        refine ite2 (fun c8 => ?_) (fun c8 => ?_)
        · walk_at "rd"
          exact ⟨U, M, .dat du, .dat dm, rfl, rfl, ⟨sc1.hl, oU.sm⟩, ⟨sc1.hz, oM.sm⟩, ⟨by omega, by omega, fun _ => ⟨_, rfl⟩, _, rfl, oM.few⟩, fun h => absurd c8 (by omega), fun _ _ q e => by cases e; exact oU, fun q e => by cases e; exact oM⟩
        walk_at "rd"
        have o0 : Od (.tuple []) := .inl (by simp [oddD])
        exact ⟨y, .ref p, b, .dat (.tuple []), rfl, rfl, hy, ⟨.tup pt gp .nil, o0.sm⟩, ⟨by omega, by omega, fun h => ⟨wd, b1 (by omega) (by omega)⟩, _, rfl, o0.few⟩, fun h => b1 (by omega) (by omega), fun h h7 => b2 (by omega), fun q e => by cases e; exact o0⟩
      clear hy b1 b2 gp np pt
      rintro _ _ ⟨y, zz, b, cc, rfl, rfl, hy, hzz, cn, bw, ob, oc⟩
      walk_at "rd"
      refine ⟨(i : Nat), X, y, zz, t, A, b, cc, rfl, sc1.hx, hy, hzz, cn, fun q H22 s2 hdu => ?_⟩
      have sc2 := sc1.same s2
      walk_at "rd"
      generalize hdo : dueOf (i : Nat) X A y b zz cc = du0 at hdu
      refine Rd.cut (fun σ H' => σ = [some (.ref a), some (.ref t), some (.bl (decide (g = 0))), some (.int sp), some U, some (.str z), some (.ref la), some w, some X, some Y, some M, some (.str wd.shown), some (.int ((i : Nat) : Int)), some y, some zz, some (.ref q), o16, none] ∧ Same H22 H') ?_ ?_
      · walk_at "rd"
        refine ite2 (fun c1 => ?_) (fun c1 => ?_)
        · walk_at "rd"
          refine ite2 (fun c4 => ?_) (fun c4 => ?_)
          · obtain rfl := bw (by omega)
            have rowW : (∀ v, du0 ≠ some (1, v)) → (∀ v, du0 ≠ some (0, v)) → ∃ (a2 : Addr) (zs : List Str), w = .ref a2 ∧ ∀ H', Same H22 H' → Ru.SqR K H' a2 (zs.map V.str) := fun n1 n0 => by
              have f : faultD wd = none := by
                cases A with
                | dat d => exact absurd hdo.symm (n0 X)
                | bk us => exact due_row (x := X) (y := y) (z := zz) (ws := us) (c := cc) c4 fun v e => n1 v (hdo.symm.trans e)
              obtain ⟨a2, zs, e, hS, _⟩ := dd_words (K := K) sc2.hw f
              exact ⟨a2, zs, e, fun H' s' => hS.same s'⟩
            walk_at "rd"
            cases du0 with
            | none =>
              have gd : H22 q = some (.tup [.str "told", .non]) := hdu
              refine Rd.ixT (.of gd) (Rd.atI_of (by decide) rfl) ?_
              walk_at "rd"
              refine ⟨Nat.le_of_ble_eq_true rfl, Rd.new fun p1 G1 n1 g1 s4 => ?_⟩
              walk_at "rd"
              refine ⟨Nat.le_of_ble_eq_true rfl, Rd.new fun p2 G2 n2 g2 s5 => ?_⟩
              have s45 := s4.trans s5
              refine ⟨.str "told", [.str "told", .list [.str "many"]], .str _, .lst (.of g2) (.cons (.str _) (.cons (.lst (.of (s5 _ _ g1)) (.cons (.str _) .nil)) .nil)), by decide +kernel, by decide +kernel, ?_⟩
              rw [show ([PyData.str "told", .list [.str "many"]].any fun z => PyData.eqv z (.str "told")) = true from by decide +kernel]
              walk_at "rd"
              obtain ⟨a2, zs, rfl, hS⟩ := rowW (fun v e => by cases e) (fun v e => by cases e)
              refine Rd.len (hS _ s45) ?_
              rw [List.length_map]
              walk_at "rd"
              refine ite2 (fun c6 => ?_) (fun c6 => ?_)
              · walk_at "rd"
                exact ⟨_, _, _, _, o16, rfl, sc2.same s45⟩
              · walk_at "rd"
                exact ⟨rfl, s45⟩
            | some nv =>
              obtain ⟨n, v⟩ := nv
              obtain ⟨l, gd, hl⟩ := hdu
              refine Rd.ixT (.of gd) (Rd.atI_of (by decide) rfl) ?_
              walk_at "rd"
              refine ⟨Nat.le_of_ble_eq_true rfl, Rd.new fun p1 G1 n1 g1 s4 => ?_⟩
              walk_at "rd"
              refine ⟨Nat.le_of_ble_eq_true rfl, Rd.new fun p2 G2 n2 g2 s5 => ?_⟩
              have s45 := s4.trans s5
              refine ⟨.list [.str (nm n)], [.str "told", .list [.str "many"]], .lst (.of (s45 _ _ hl)) (.cons (.str _) .nil), .lst (.of g2) (.cons (.str _) (.cons (.lst (.of (s5 _ _ g1)) (.cons (.str _) .nil)) .nil)), nm_shaped n, by decide +kernel, ?_⟩
              rw [in_due n]
              by_cases n4 : 4 ≤ n
              · rw [decide_eq_true n4]
                walk_at "rd"
                obtain ⟨a2, zs, rfl, hS⟩ := rowW (fun v e => by cases e; omega) (fun v e => by cases e; omega)
                refine Rd.len (hS _ s45) ?_
                rw [List.length_map]
                walk_at "rd"
                refine ite2 (fun c6 => ?_) (fun c6 => ?_)
                · walk_at "rd"
                  exact ⟨_, _, _, _, o16, rfl, sc2.same s45⟩
                · walk_at "rd"
                  exact ⟨rfl, s45⟩
              · rw [decide_eq_false n4]
                walk_at "rd"
                exact ⟨rfl, s45⟩
          · walk_at "rd"
            exact ⟨rfl, Same.refl _⟩
        · walk_at "rd"
          exact ⟨rfl, Same.refl _⟩
      rintro _ H23 ⟨rfl, s3⟩
      have sc3 := sc2.same s3
      have s13 := s2.trans s3
      walk_at "rd"
      refine ⟨(i : Nat), X, y, zz, t, A, b, cc, rfl, sc3.hx, hy.same s13, hzz.same s13, cn, sc3.tb, fun q2 H24 e4 T4 hfo => ?_⟩
      rw [hdo] at hfo
      have sc4 := sc3.ext e4 T4
      have hdu4 : DuAt H24 q du0 := (hdu.ext (LamX.ExtN.of s3)).ext e4
      walk_at "rd"
      have s4x := LamX.ExtN.of (s13 : Same G H23)
      obtain ⟨x0, y0, v, dv, gd, gf, ddv, odv, ne⟩ := du_both (K := K) hdu4 hfo fun n v ev => due_od (hdo.trans ev) cn.k8 sc4.hx (ar_ext e4 (hy.same s13)) (ar_ext e4 (hzz.same s13)) oA ob oc (fun e => cn.w (.inr e)) (let ⟨e, h, _⟩ := cn.m; ⟨e, h⟩)
      refine Rd.ixT (.of gf) (Rd.atI_of (by decide) rfl) ?_
      walk_at "rd"
      refine Rd.ixT (.of gd) (Rd.atI_of (by decide) rfl) ?_
      refine ne _ ?_
      walk_at "rd"
      refine Rd.ixT (.of gf) (Rd.atI_of (by decide) rfl) ?_
      walk_at "rd"
      refine Rd.ixT (.of gd) (Rd.atI_of (by decide) rfl) ?_
      refine neS ddv odv ?_
      walk_at "rd"
      refine Rd.ixT (.of gf) (Rd.atI_of (by decide) rfl) ?_
      walk_at "rd"
      refine Ri.askBool ddv ?_
      walk_at "rd"
      refine Rd.ixT (.of gd) (Rd.atI_of (by decide) rfl) ?_
      walk_at "rd"
      refine Ri.askBool ddv ?_
      walk_at "rd"
      refine Rd.no (by rw [bne_self_eq_false]; exact Bool.false_ne_true) ?_
      walk_at "rd"
      exact ⟨_, _, _, _, _, rfl, sc4⟩
    · rintro _ H21 ⟨o12, o13, o14, o15, o16, rfl, sc⟩
      walk_at "rd"
      refine ⟨t, w, wd, rfl, sc.hw, ww.sd.sh, dp, sz, ?_⟩
      walk_at "rd"
      rw [decide_eq_true (show wd.shown = wd.shown from rfl)]
      exact k _

end
end W

namespace W
open PySem PySem.Spec PyProof.Rows L2
theorem all_mk {l : PySem.W.OpenLaw} {w : World} {K : PySem.W.Frag} {h : Heap} {mg : Str → Option Value} {fa : Addr} (X : K.In h) (G : h.Ns mainGlobals mg) (hfa : mg "law" = some (.ref fa))
    {f1 f2 f3 f4 f5 f6 f7 f8 f9 f10 f11 f12 f13 f14 f15 f16 f17 f18 f19 f20 f21 f22 f23 f24 f25 f26 f27 f28 f29 f30 f31 f32 f33 f34 f35 f36 f37 f38 f39 f40 f41 f42 f43 f44 f45 f46 f47 f48 f49 f50 f51 f52 C0 : Addr} {od1 an1 od2 an2 od3 an3 od4 an4 od5 an5 od6 an6 od7 an7 od8 an8 od9 an9 od10 an10 od11 an11 od12 an12 od13 an13 od14 an14 od15 an15 od16 an16 od17 an17 od18 an18 od19 an19 od20 an20 od21 an21 od22 an22 od23 an23 od24 an24 od25 an25 od26 an26 od27 an27 od28 an28 od29 an29 od30 an30 od31 an31 od32 an32 od33 an33 od34 an34 od35 an35 od36 an36 od37 an37 od38 an38 od39 an39 od40 an40 od41 an41 od42 an42 od43 an43 od44 an44 od45 an45 od46 an46 od47 an47 od48 an48 od49 an49 od50 an50 od51 an51 od52 an52 : Option Addr} {sl1 sl2 sl3 sl4 sl5 sl6 sl7 sl8 sl9 sl10 sl11 sl12 sl13 sl14 sl15 sl16 sl17 sl18 sl19 sl20 sl21 sl22 sl23 sl24 sl25 sl26 sl27 sl28 sl29 sl30 sl31 sl32 sl33 sl34 sl35 sl36 sl37 sl38 sl39 sl40 sl41 sl42 sl43 sl44 sl45 sl46 sl47 sl48 sl49 sl50 sl51 sl52 : Array (Option Value)} {oc1 kV1 dc1 pm1 cd1 ct1 oc2 kV2 dc2 pm2 cd2 ct2 oc3 kV3 dc3 pm3 cd3 ct3 oc4 kV4 dc4 pm4 cd4 ct4 oc5 kV5 dc5 pm5 cd5 ct5 oc6 kV6 dc6 pm6 cd6 ct6 oc7 kV7 dc7 pm7 cd7 ct7 oc8 kV8 dc8 pm8 cd8 ct8 oc9 kV9 dc9 pm9 cd9 ct9 oc10 kV10 dc10 pm10 cd10 ct10 oc11 kV11 dc11 pm11 cd11 ct11 oc12 kV12 dc12 pm12 cd12 ct12 oc13 kV13 dc13 pm13 cd13 ct13 oc14 kV14 dc14 pm14 cd14 ct14 oc15 kV15 dc15 pm15 cd15 ct15 oc16 kV16 dc16 pm16 cd16 ct16 oc17 kV17 dc17 pm17 cd17 ct17 oc18 kV18 dc18 pm18 cd18 ct18 oc19 kV19 dc19 pm19 cd19 ct19 oc20 kV20 dc20 pm20 cd20 ct20 oc21 kV21 dc21 pm21 cd21 ct21 oc22 kV22 dc22 pm22 cd22 ct22 oc23 kV23 dc23 pm23 cd23 ct23 oc24 kV24 dc24 pm24 cd24 ct24 oc25 kV25 dc25 pm25 cd25 ct25 oc26 kV26 dc26 pm26 cd26 ct26 oc27 kV27 dc27 pm27 cd27 ct27 oc28 kV28 dc28 pm28 cd28 ct28 oc29 kV29 dc29 pm29 cd29 ct29 oc30 kV30 dc30 pm30 cd30 ct30 oc31 kV31 dc31 pm31 cd31 ct31 oc32 kV32 dc32 pm32 ct32 oc33 kV33 dc33 pm33 ct33 oc34 kV34 dc34 pm34 cd34 ct34 oc35 kV35 dc35 pm35 cd35 ct35 oc36 kV36 dc36 pm36 cd36 ct36 oc37 kV37 dc37 pm37 cd37 ct37 oc38 kV38 dc38 pm38 cd38 ct38 oc39 kV39 dc39 pm39 cd39 ct39 oc40 kV40 dc40 pm40 cd40 ct40 oc41 kV41 dc41 pm41 cd41 ct41 oc42 kV42 dc42 pm42 cd42 ct42 oc43 kV43 dc43 pm43 cd43 ct43 oc44 kV44 dc44 pm44 cd44 ct44 oc45 kV45 dc45 pm45 cd45 ct45 oc46 kV46 dc46 pm46 cd46 ct46 oc47 kV47 dc47 pm47 cd47 ct47 oc48 kV48 dc48 pm48 cd48 ct48 oc49 kV49 dc49 pm49 cd49 ct49 oc50 kV50 dc50 pm50 cd50 ct50 oc51 kV51 dc51 pm51 cd51 ct51 oc52 kV52 dc52 pm52 cd52 ct52 : Value}
    (u0 : PySem.W.nsIn K mainGlobals "Book" = some (some (.ref C0)))
    (pg0 : PySem.W.plainGet K C0 Str.empty = true) (hd0 : PySem.W.hasDictIn K C0 = true) (po0 : PySem.W.plainOver K C0 = true) (sa0 : PySem.W.findIn K (.ref C0) "__setattr__" = some (some (.builtin "object.__setattr__")))
    (wc0 : PySem.W.findIn K (.ref C0) "__class__" = some (some (.builtin "object.__class__"))) (wm0 : PySem.W.mroIn K C0 (.type "object") = some true)
    (wn0 : PySem.W.specialIn K (.builtin "object.__class__") "__get__" = some (some (.builtin "getset_descriptor.__get__"))) (wt0 : PySem.W.takesIn K (.builtin "object.__class__") = some true)
    (na0_0 : PySem.W.findIn K (.ref C0) "watches" = some none)
    (fx0_0 : PySem.W.mroIn K C0 (.type "int") = some false)
    (fx0_1 : PySem.W.mroIn K C0 (.type "bool") = some false)
    (fx0_2 : PySem.W.isClsIn K C0 = true)
    (fx0_3 : PySem.W.typeIn K (.ref C0) = some (.type "type"))
    (fx0_4 : PySem.W.subIn K (.ref C0) (.ref C0) = some true)
    (fx0_5 : PySem.W.mroIn K C0 (.type "str") = some false)
    {dT tN : Nat} {tC : Value} {tD : Option Addr} {tS : Array (Option Value)} (lT : K.lookup dT = some ⟨tC, tD, .seq [Value.none].toArray tN, tS⟩) (tI : PySem.W.typeIn K (.ref f1) = some (.type "function"))
    (xn : PySem.W.specialIn K (.builtin "object.__class__") "__get__" = some (some (.builtin "getset_descriptor.__get__"))) (xo : PySem.W.takesIn K (.builtin "object.__class__") = some true)
    {E0 : Addr} {xnm0 xq0 : Str} {xN0 : Addr} {xbs0 xbm0 xsub0 : List Value} {xsn0 : List Str} {xab0 : Bool} {xcol0 : Option Bool} {xdd0 : Option Addr} {xk0_0 xk1_0 xk2_0 xk3_0 xk5_0 : Option Value}
    (ue0 : PySem.W.nsIn K mainGlobals "BadWatches" = some (some (.ref E0)))
    (xl0 : K.lookup E0 = some (excClassObj xnm0 xq0 E0 xN0 xbs0 xbm0 true xsn0 xsub0 xab0 xcol0 xdd0 xk0_0 xk1_0 xk2_0 xk3_0 xk5_0 "ValueError.__new__"))
    (rb0 : PySem.HandSPX.refsVE xbm0 = true)
    (xa0 : PySem.W.findIn K (.ref E0) "__setattr__" = some (some (.builtin "object.__setattr__")))
    (xb0 : PySem.W.subIn K (.ref E0) (.type "BaseException") = some true)
    (xc0 : PySem.W.typeIn K (.ref E0) = some (.type "type"))
    (xd0 : PySem.W.keepIn K (.ref E0) = true)
    (xe0 : PySem.W.findIn K (.ref E0) "__init__" = some (some (.ref f1)))
    (xf0 : PySem.W.findIn K (.ref E0) "value" = some none)
    (xg0 : PySem.W.findIn K (.ref E0) "__getattribute__" = some (some (.builtin "BaseException.__getattribute__")))
    (xh0 : PySem.W.findIn K (.ref E0) "__getattr__" = some none)
    (xi0 : PySem.W.hasDictIn K E0 = true)
    (xj0 : PySem.W.findIn K (.ref E0) "__class__" = some (some (.builtin "object.__class__")))
    (xm0 : PySem.W.mroIn K E0 (.type "object") = some true)
    (xp0 : PySem.W.isClsIn K E0 = true)
    (xs0 : PySem.W.subIn K (.ref E0) (.ref E0) = some true)
    {E1 : Addr} {xnm1 xq1 : Str} {xN1 : Addr} {xbs1 xbm1 xsub1 : List Value} {xsn1 : List Str} {xab1 : Bool} {xcol1 : Option Bool} {xdd1 : Option Addr} {xk0_1 xk1_1 xk2_1 xk3_1 xk5_1 : Option Value}
    (ue1 : PySem.W.nsIn K mainGlobals "BadBook" = some (some (.ref E1)))
    (xl1 : K.lookup E1 = some (excClassObj xnm1 xq1 E1 xN1 xbs1 xbm1 true xsn1 xsub1 xab1 xcol1 xdd1 xk0_1 xk1_1 xk2_1 xk3_1 xk5_1 "ValueError.__new__"))
    (rb1 : PySem.HandSPX.refsVE xbm1 = true)
    (xa1 : PySem.W.findIn K (.ref E1) "__setattr__" = some (some (.builtin "object.__setattr__")))
    (xb1 : PySem.W.subIn K (.ref E1) (.type "BaseException") = some true)
    (xc1 : PySem.W.typeIn K (.ref E1) = some (.type "type"))
    (xd1 : PySem.W.keepIn K (.ref E1) = true)
    (xe1 : PySem.W.findIn K (.ref E1) "__init__" = some (some (.ref f1)))
    (xf1 : PySem.W.findIn K (.ref E1) "value" = some none)
    (xg1 : PySem.W.findIn K (.ref E1) "__getattribute__" = some (some (.builtin "BaseException.__getattribute__")))
    (xh1 : PySem.W.findIn K (.ref E1) "__getattr__" = some none)
    (xi1 : PySem.W.hasDictIn K E1 = true)
    (xj1 : PySem.W.findIn K (.ref E1) "__class__" = some (some (.builtin "object.__class__")))
    (xm1 : PySem.W.mroIn K E1 (.type "object") = some true)
    (xp1 : PySem.W.isClsIn K E1 = true)
    (xs1 : PySem.W.subIn K (.ref E1) (.ref E1) = some true)
    {E2 : Addr} {xnm2 xq2 : Str} {xN2 : Addr} {xbs2 xbm2 xsub2 : List Value} {xsn2 : List Str} {xab2 : Bool} {xcol2 : Option Bool} {xdd2 : Option Addr} {xk0_2 xk1_2 xk2_2 xk3_2 xk5_2 : Option Value}
    (ue2 : PySem.W.nsIn K mainGlobals "BadWords" = some (some (.ref E2)))
    (xl2 : K.lookup E2 = some (excClassObj xnm2 xq2 E2 xN2 xbs2 xbm2 true xsn2 xsub2 xab2 xcol2 xdd2 xk0_2 xk1_2 xk2_2 xk3_2 xk5_2 "ValueError.__new__"))
    (rb2 : PySem.HandSPX.refsVE xbm2 = true)
    (xa2 : PySem.W.findIn K (.ref E2) "__setattr__" = some (some (.builtin "object.__setattr__")))
    (xb2 : PySem.W.subIn K (.ref E2) (.type "BaseException") = some true)
    (xc2 : PySem.W.typeIn K (.ref E2) = some (.type "type"))
    (xd2 : PySem.W.keepIn K (.ref E2) = true)
    (xe2 : PySem.W.findIn K (.ref E2) "__init__" = some (some (.ref f1)))
    (xf2 : PySem.W.findIn K (.ref E2) "value" = some none)
    (xg2 : PySem.W.findIn K (.ref E2) "__getattribute__" = some (some (.builtin "BaseException.__getattribute__")))
    (xh2 : PySem.W.findIn K (.ref E2) "__getattr__" = some none)
    (xi2 : PySem.W.hasDictIn K E2 = true)
    (xj2 : PySem.W.findIn K (.ref E2) "__class__" = some (some (.builtin "object.__class__")))
    (xm2 : PySem.W.mroIn K E2 (.type "object") = some true)
    (xp2 : PySem.W.isClsIn K E2 = true)
    (xs2 : PySem.W.subIn K (.ref E2) (.ref E2) = some true)
    {E3 : Addr} {xnm3 xq3 : Str} {xN3 : Addr} {xbs3 xbm3 xsub3 : List Value} {xsn3 : List Str} {xab3 : Bool} {xcol3 : Option Bool} {xdd3 : Option Addr} {xk0_3 xk1_3 xk2_3 xk3_3 xk5_3 : Option Value}
    (ue3 : PySem.W.nsIn K mainGlobals "BadLetters" = some (some (.ref E3)))
    (xl3 : K.lookup E3 = some (excClassObj xnm3 xq3 E3 xN3 xbs3 xbm3 true xsn3 xsub3 xab3 xcol3 xdd3 xk0_3 xk1_3 xk2_3 xk3_3 xk5_3 "ValueError.__new__"))
    (rb3 : PySem.HandSPX.refsVE xbm3 = true)
    (xa3 : PySem.W.findIn K (.ref E3) "__setattr__" = some (some (.builtin "object.__setattr__")))
    (xb3 : PySem.W.subIn K (.ref E3) (.type "BaseException") = some true)
    (xc3 : PySem.W.typeIn K (.ref E3) = some (.type "type"))
    (xd3 : PySem.W.keepIn K (.ref E3) = true)
    (xe3 : PySem.W.findIn K (.ref E3) "__init__" = some (some (.ref f1)))
    (xf3 : PySem.W.findIn K (.ref E3) "value" = some none)
    (xg3 : PySem.W.findIn K (.ref E3) "__getattribute__" = some (some (.builtin "BaseException.__getattribute__")))
    (xh3 : PySem.W.findIn K (.ref E3) "__getattr__" = some none)
    (xi3 : PySem.W.hasDictIn K E3 = true)
    (xj3 : PySem.W.findIn K (.ref E3) "__class__" = some (some (.builtin "object.__class__")))
    (xm3 : PySem.W.mroIn K E3 (.type "object") = some true)
    (xp3 : PySem.W.isClsIn K E3 = true)
    (xs3 : PySem.W.subIn K (.ref E3) (.ref E3) = some true)
    {E4 : Addr} {xnm4 xq4 : Str} {xN4 : Addr} {xbs4 xbm4 xsub4 : List Value} {xsn4 : List Str} {xab4 : Bool} {xcol4 : Option Bool} {xdd4 : Option Addr} {xk0_4 xk1_4 xk2_4 xk3_4 xk5_4 : Option Value}
    (ue4 : PySem.W.nsIn K mainGlobals "BadMost" = some (some (.ref E4)))
    (xl4 : K.lookup E4 = some (excClassObj xnm4 xq4 E4 xN4 xbs4 xbm4 true xsn4 xsub4 xab4 xcol4 xdd4 xk0_4 xk1_4 xk2_4 xk3_4 xk5_4 "ValueError.__new__"))
    (rb4 : PySem.HandSPX.refsVE xbm4 = true)
    (xa4 : PySem.W.findIn K (.ref E4) "__setattr__" = some (some (.builtin "object.__setattr__")))
    (xb4 : PySem.W.subIn K (.ref E4) (.type "BaseException") = some true)
    (xc4 : PySem.W.typeIn K (.ref E4) = some (.type "type"))
    (xd4 : PySem.W.keepIn K (.ref E4) = true)
    (xe4 : PySem.W.findIn K (.ref E4) "__init__" = some (some (.ref f1)))
    (xf4 : PySem.W.findIn K (.ref E4) "value" = some none)
    (xg4 : PySem.W.findIn K (.ref E4) "__getattribute__" = some (some (.builtin "BaseException.__getattribute__")))
    (xh4 : PySem.W.findIn K (.ref E4) "__getattr__" = some none)
    (xi4 : PySem.W.hasDictIn K E4 = true)
    (xj4 : PySem.W.findIn K (.ref E4) "__class__" = some (some (.builtin "object.__class__")))
    (xm4 : PySem.W.mroIn K E4 (.type "object") = some true)
    (xp4 : PySem.W.isClsIn K E4 = true)
    (xs4 : PySem.W.subIn K (.ref E4) (.ref E4) = some true)
    {E5 : Addr} {xnm5 xq5 : Str} {xN5 : Addr} {xbs5 xbm5 xsub5 : List Value} {xsn5 : List Str} {xab5 : Bool} {xcol5 : Option Bool} {xdd5 : Option Addr} {xk0_5 xk1_5 xk2_5 xk3_5 xk5_5 : Option Value}
    (ue5 : PySem.W.nsIn K mainGlobals "TooMany" = some (some (.ref E5)))
    (xl5 : K.lookup E5 = some (excClassObj xnm5 xq5 E5 xN5 xbs5 xbm5 true xsn5 xsub5 xab5 xcol5 xdd5 xk0_5 xk1_5 xk2_5 xk3_5 xk5_5 "ValueError.__new__"))
    (rb5 : PySem.HandSPX.refsVE xbm5 = true)
    (xa5 : PySem.W.findIn K (.ref E5) "__setattr__" = some (some (.builtin "object.__setattr__")))
    (xb5 : PySem.W.subIn K (.ref E5) (.type "BaseException") = some true)
    (xc5 : PySem.W.typeIn K (.ref E5) = some (.type "type"))
    (xd5 : PySem.W.keepIn K (.ref E5) = true)
    (xe5 : PySem.W.findIn K (.ref E5) "__init__" = some (some (.ref f1)))
    (xf5 : PySem.W.findIn K (.ref E5) "value" = some none)
    (xg5 : PySem.W.findIn K (.ref E5) "__getattribute__" = some (some (.builtin "BaseException.__getattribute__")))
    (xh5 : PySem.W.findIn K (.ref E5) "__getattr__" = some none)
    (xi5 : PySem.W.hasDictIn K E5 = true)
    (xj5 : PySem.W.findIn K (.ref E5) "__class__" = some (some (.builtin "object.__class__")))
    (xm5 : PySem.W.mroIn K E5 (.type "object") = some true)
    (xp5 : PySem.W.isClsIn K E5 = true)
    (xs5 : PySem.W.subIn K (.ref E5) (.ref E5) = some true)
    {E6 : Addr} {xnm6 xq6 : Str} {xN6 : Addr} {xbs6 xbm6 xsub6 : List Value} {xsn6 : List Str} {xab6 : Bool} {xcol6 : Option Bool} {xdd6 : Option Addr} {xk0_6 xk1_6 xk2_6 xk3_6 xk5_6 : Option Value}
    (ue6 : PySem.W.nsIn K mainGlobals "WayError" = some (some (.ref E6)))
    (xl6 : K.lookup E6 = some (excClassObj xnm6 xq6 E6 xN6 xbs6 xbm6 true xsn6 xsub6 xab6 xcol6 xdd6 xk0_6 xk1_6 xk2_6 xk3_6 xk5_6 "ValueError.__new__"))
    (rb6 : PySem.HandSPX.refsVE xbm6 = true)
    (xa6 : PySem.W.findIn K (.ref E6) "__setattr__" = some (some (.builtin "object.__setattr__")))
    (xb6 : PySem.W.subIn K (.ref E6) (.type "BaseException") = some true)
    (xc6 : PySem.W.typeIn K (.ref E6) = some (.type "type"))
    (xd6 : PySem.W.keepIn K (.ref E6) = true)
    (xe6 : PySem.W.findIn K (.ref E6) "__init__" = some (some (.ref f1)))
    (xf6 : PySem.W.findIn K (.ref E6) "value" = some none)
    (xg6 : PySem.W.findIn K (.ref E6) "__getattribute__" = some (some (.builtin "BaseException.__getattribute__")))
    (xh6 : PySem.W.findIn K (.ref E6) "__getattr__" = some none)
    (xi6 : PySem.W.hasDictIn K E6 = true)
    (xj6 : PySem.W.findIn K (.ref E6) "__class__" = some (some (.builtin "object.__class__")))
    (xm6 : PySem.W.mroIn K E6 (.type "object") = some true)
    (xp6 : PySem.W.isClsIn K E6 = true)
    (xs6 : PySem.W.subIn K (.ref E6) (.ref E6) = some true)
    {E7 : Addr} {xnm7 xq7 : Str} {xN7 : Addr} {xbs7 xbm7 xsub7 : List Value} {xsn7 : List Str} {xab7 : Bool} {xcol7 : Option Bool} {xdd7 : Option Addr} {xk0_7 xk1_7 xk2_7 xk3_7 xk5_7 : Option Value}
    (ue7 : PySem.W.nsIn K mainGlobals "BadWord" = some (some (.ref E7)))
    (xl7 : K.lookup E7 = some (excClassObj xnm7 xq7 E7 xN7 xbs7 xbm7 true xsn7 xsub7 xab7 xcol7 xdd7 xk0_7 xk1_7 xk2_7 xk3_7 xk5_7 "ValueError.__new__"))
    (rb7 : PySem.HandSPX.refsVE xbm7 = true)
    (xa7 : PySem.W.findIn K (.ref E7) "__setattr__" = some (some (.builtin "object.__setattr__")))
    (xb7 : PySem.W.subIn K (.ref E7) (.type "BaseException") = some true)
    (xc7 : PySem.W.typeIn K (.ref E7) = some (.type "type"))
    (xd7 : PySem.W.keepIn K (.ref E7) = true)
    (xe7 : PySem.W.findIn K (.ref E7) "__init__" = some (some (.ref f1)))
    (xf7 : PySem.W.findIn K (.ref E7) "value" = some none)
    (xg7 : PySem.W.findIn K (.ref E7) "__getattribute__" = some (some (.builtin "BaseException.__getattribute__")))
    (xh7 : PySem.W.findIn K (.ref E7) "__getattr__" = some none)
    (xi7 : PySem.W.hasDictIn K E7 = true)
    (xj7 : PySem.W.findIn K (.ref E7) "__class__" = some (some (.builtin "object.__class__")))
    (xm7 : PySem.W.mroIn K E7 (.type "object") = some true)
    (xp7 : PySem.W.isClsIn K E7 = true)
    (xs7 : PySem.W.subIn K (.ref E7) (.ref E7) = some true)
    (sp0 : PySem.W.subIn K (.ref E0) (.ref E6) = some true)
    (sp1 : PySem.W.subIn K (.ref E0) (.ref E1) = some false)
    (sp2 : PySem.W.subIn K (.ref E0) (.ref E2) = some false)
    (sp3 : PySem.W.subIn K (.ref E0) (.ref E3) = some false)
    (sp4 : PySem.W.subIn K (.ref E0) (.ref E4) = some false)
    (sp5 : PySem.W.subIn K (.ref E0) (.ref E5) = some false)
    (sp6 : PySem.W.subIn K (.ref E0) (.ref E7) = some false)
    (sp7 : PySem.W.subIn K (.ref E1) (.ref E6) = some true)
    (sp8 : PySem.W.subIn K (.ref E1) (.ref E1) = some true)
    (sp9 : PySem.W.subIn K (.ref E1) (.ref E2) = some false)
    (sp10 : PySem.W.subIn K (.ref E1) (.ref E3) = some false)
    (sp11 : PySem.W.subIn K (.ref E1) (.ref E4) = some false)
    (sp12 : PySem.W.subIn K (.ref E1) (.ref E5) = some false)
    (sp13 : PySem.W.subIn K (.ref E1) (.ref E7) = some false)
    (sp14 : PySem.W.subIn K (.ref E2) (.ref E6) = some true)
    (sp15 : PySem.W.subIn K (.ref E2) (.ref E1) = some false)
    (sp16 : PySem.W.subIn K (.ref E2) (.ref E2) = some true)
    (sp17 : PySem.W.subIn K (.ref E2) (.ref E3) = some false)
    (sp18 : PySem.W.subIn K (.ref E2) (.ref E4) = some false)
    (sp19 : PySem.W.subIn K (.ref E2) (.ref E5) = some false)
    (sp20 : PySem.W.subIn K (.ref E2) (.ref E7) = some false)
    (sp21 : PySem.W.subIn K (.ref E3) (.ref E6) = some true)
    (sp22 : PySem.W.subIn K (.ref E3) (.ref E1) = some false)
    (sp23 : PySem.W.subIn K (.ref E3) (.ref E2) = some false)
    (sp24 : PySem.W.subIn K (.ref E3) (.ref E3) = some true)
    (sp25 : PySem.W.subIn K (.ref E3) (.ref E4) = some false)
    (sp26 : PySem.W.subIn K (.ref E3) (.ref E5) = some false)
    (sp27 : PySem.W.subIn K (.ref E3) (.ref E7) = some false)
    (sp28 : PySem.W.subIn K (.ref E4) (.ref E6) = some true)
    (sp29 : PySem.W.subIn K (.ref E4) (.ref E1) = some false)
    (sp30 : PySem.W.subIn K (.ref E4) (.ref E2) = some false)
    (sp31 : PySem.W.subIn K (.ref E4) (.ref E3) = some false)
    (sp32 : PySem.W.subIn K (.ref E4) (.ref E4) = some true)
    (sp33 : PySem.W.subIn K (.ref E4) (.ref E5) = some false)
    (sp34 : PySem.W.subIn K (.ref E4) (.ref E7) = some false)
    (sp35 : PySem.W.subIn K (.ref E5) (.ref E6) = some true)
    (sp36 : PySem.W.subIn K (.ref E5) (.ref E1) = some false)
    (sp37 : PySem.W.subIn K (.ref E5) (.ref E2) = some false)
    (sp38 : PySem.W.subIn K (.ref E5) (.ref E3) = some false)
    (sp39 : PySem.W.subIn K (.ref E5) (.ref E4) = some false)
    (sp40 : PySem.W.subIn K (.ref E5) (.ref E5) = some true)
    (sp41 : PySem.W.subIn K (.ref E5) (.ref E7) = some false)
    (l1 : K.lookup f1 = some ⟨oc1, od1, .func (PySem.W.fnOf "__init__" "WayError.__init__" (defArgs s_WayError_init) (defBody s_WayError_init) (defScope s_WayError_init) (.ref dT) kV1 dc1 pm1 an1 cd1 ct1), sl1⟩) (c1 : PySem.W.codeIn K cd1 "WayError.__init__" = true) (k1 : PySem.W.keepIn K (.ref f1) = true)
    (a2 : PySem.W.nsIn K mainGlobals "is_integer" = some (some (.ref f2)))
    (l2 : K.lookup f2 = some ⟨oc2, od2, .func (PySem.W.fnOf "is_integer" "is_integer" (defArgs s_is_integer) (defBody s_is_integer) (defScope s_is_integer) .none kV2 dc2 pm2 an2 cd2 ct2), sl2⟩) (c2 : PySem.W.codeIn K cd2 "is_integer" = true) (k2 : PySem.W.keepIn K (.ref f2) = true)
    (a3 : PySem.W.nsIn K mainGlobals "is_letters" = some (some (.ref f3)))
    (l3 : K.lookup f3 = some ⟨oc3, od3, .func (PySem.W.fnOf "is_letters" "is_letters" (defArgs s_is_letters) (defBody s_is_letters) (defScope s_is_letters) .none kV3 dc3 pm3 an3 cd3 ct3), sl3⟩) (c3 : PySem.W.codeIn K cd3 "is_letters" = true) (k3 : PySem.W.keepIn K (.ref f3) = true)
    (a4 : PySem.W.nsIn K mainGlobals "is_word" = some (some (.ref f4)))
    (l4 : K.lookup f4 = some ⟨oc4, od4, .func (PySem.W.fnOf "is_word" "is_word" (defArgs s_is_word) (defBody s_is_word) (defScope s_is_word) .none kV4 dc4 pm4 an4 cd4 ct4), sl4⟩) (c4 : PySem.W.codeIn K cd4 "is_word" = true) (k4 : PySem.W.keepIn K (.ref f4) = true)
    (a5 : PySem.W.nsIn K mainGlobals "is_watch" = some (some (.ref f5)))
    (l5 : K.lookup f5 = some ⟨oc5, od5, .func (PySem.W.fnOf "is_watch" "is_watch" (defArgs s_is_watch) (defBody s_is_watch) (defScope s_is_watch) .none kV5 dc5 pm5 an5 cd5 ct5), sl5⟩) (c5 : PySem.W.codeIn K cd5 "is_watch" = true) (k5 : PySem.W.keepIn K (.ref f5) = true)
    (a6 : PySem.W.nsIn K mainGlobals "text_key" = some (some (.ref f6)))
    (l6 : K.lookup f6 = some ⟨oc6, od6, .func (PySem.W.fnOf "text_key" "text_key" (defArgs s_text_key) (defBody s_text_key) (defScope s_text_key) .none kV6 dc6 pm6 an6 cd6 ct6), sl6⟩) (c6 : PySem.W.codeIn K cd6 "text_key" = true) (k6 : PySem.W.keepIn K (.ref f6) = true)
    (a7 : PySem.W.nsIn K mainGlobals "row_key" = some (some (.ref f7)))
    (l7 : K.lookup f7 = some ⟨oc7, od7, .func (PySem.W.fnOf "row_key" "row_key" (defArgs s_row_key) (defBody s_row_key) (defScope s_row_key) .none kV7 dc7 pm7 an7 cd7 ct7), sl7⟩) (c7 : PySem.W.codeIn K cd7 "row_key" = true) (k7 : PySem.W.keepIn K (.ref f7) = true)
    (a8 : PySem.W.nsIn K mainGlobals "in_order" = some (some (.ref f8)))
    (l8 : K.lookup f8 = some ⟨oc8, od8, .func (PySem.W.fnOf "in_order" "in_order" (defArgs s_in_order) (defBody s_in_order) (defScope s_in_order) .none kV8 dc8 pm8 an8 cd8 ct8), sl8⟩) (c8 : PySem.W.codeIn K cd8 "in_order" = true) (k8 : PySem.W.keepIn K (.ref f8) = true)
    (a9 : PySem.W.findIn K (.ref C0) "__init__" = some (some (.ref f9))) (i9 : PySem.W.isFn K (.ref f9) = true)
    (mk0 : PySem.W.makesIn K C0 = true) (kc0 : PySem.W.keepIn K (.ref C0) = true)
    (l9 : K.lookup f9 = some ⟨oc9, od9, .func (PySem.W.fnOf "__init__" "Book.__init__" (defArgs s_Book_init) (defBody s_Book_init) (defScope s_Book_init) .none kV9 dc9 pm9 an9 cd9 ct9), sl9⟩) (c9 : PySem.W.codeIn K cd9 "Book.__init__" = true) (k9 : PySem.W.keepIn K (.ref f9) = true)
    (a10 : PySem.W.nsIn K mainGlobals "check_book" = some (some (.ref f10)))
    (l10 : K.lookup f10 = some ⟨oc10, od10, .func (PySem.W.fnOf "check_book" "check_book" (defArgs s_check_book) (defBody s_check_book) (defScope s_check_book) .none kV10 dc10 pm10 an10 cd10 ct10), sl10⟩) (c10 : PySem.W.codeIn K cd10 "check_book" = true) (k10 : PySem.W.keepIn K (.ref f10) = true)
    (a11 : PySem.W.nsIn K mainGlobals "ordered_watches" = some (some (.ref f11)))
    (l11 : K.lookup f11 = some ⟨oc11, od11, .func (PySem.W.fnOf "ordered_watches" "ordered_watches" (defArgs s_ordered_watches) (defBody s_ordered_watches) (defScope s_ordered_watches) .none kV11 dc11 pm11 an11 cd11 ct11), sl11⟩) (c11 : PySem.W.codeIn K cd11 "ordered_watches" = true) (k11 : PySem.W.keepIn K (.ref f11) = true)
    (a12 : PySem.W.nsIn K mainGlobals "links_of" = some (some (.ref f12)))
    (l12 : K.lookup f12 = some ⟨oc12, od12, .func (PySem.W.fnOf "links_of" "links_of" (defArgs s_links_of) (defBody s_links_of) (defScope s_links_of) .none kV12 dc12 pm12 an12 cd12 ct12), sl12⟩) (c12 : PySem.W.codeIn K cd12 "links_of" = true) (k12 : PySem.W.keepIn K (.ref f12) = true)
    (a13 : PySem.W.nsIn K mainGlobals "grown" = some (some (.ref f13)))
    (l13 : K.lookup f13 = some ⟨oc13, od13, .func (PySem.W.fnOf "grown" "grown" (defArgs s_grown) (defBody s_grown) (defScope s_grown) .none kV13 dc13 pm13 an13 cd13 ct13), sl13⟩) (c13 : PySem.W.codeIn K cd13 "grown" = true) (k13 : PySem.W.keepIn K (.ref f13) = true)
    (a14 : PySem.W.nsIn K mainGlobals "leads" = some (some (.ref f14)))
    (l14 : K.lookup f14 = some ⟨oc14, od14, .func (PySem.W.fnOf "leads" "leads" (defArgs s_leads) (defBody s_leads) (defScope s_leads) .none kV14 dc14 pm14 an14 cd14 ct14), sl14⟩) (c14 : PySem.W.codeIn K cd14 "leads" = true) (k14 : PySem.W.keepIn K (.ref f14) = true)
    (a15 : PySem.W.nsIn K mainGlobals "distances" = some (some (.ref f15)))
    (l15 : K.lookup f15 = some ⟨oc15, od15, .func (PySem.W.fnOf "distances" "distances" (defArgs s_distances) (defBody s_distances) (defScope s_distances) .none kV15 dc15 pm15 an15 cd15 ct15), sl15⟩) (c15 : PySem.W.codeIn K cd15 "distances" = true) (k15 : PySem.W.keepIn K (.ref f15) = true)
    (a16 : PySem.W.nsIn K mainGlobals "shortest" = some (some (.ref f16)))
    (l16 : K.lookup f16 = some ⟨oc16, od16, .func (PySem.W.fnOf "shortest" "shortest" (defArgs s_shortest) (defBody s_shortest) (defScope s_shortest) .none kV16 dc16 pm16 an16 cd16 ct16), sl16⟩) (c16 : PySem.W.codeIn K cd16 "shortest" = true) (k16 : PySem.W.keepIn K (.ref f16) = true)
    (a17 : PySem.W.nsIn K mainGlobals "steps_between" = some (some (.ref f17)))
    (l17 : K.lookup f17 = some ⟨oc17, od17, .func (PySem.W.fnOf "steps_between" "steps_between" (defArgs s_steps_between) (defBody s_steps_between) (defScope s_steps_between) .none kV17 dc17 pm17 an17 cd17 ct17), sl17⟩) (c17 : PySem.W.codeIn K cd17 "steps_between" = true) (k17 : PySem.W.keepIn K (.ref f17) = true)
    (a18 : PySem.W.nsIn K mainGlobals "rule_by" = some (some (.ref f18)))
    (l18 : K.lookup f18 = some ⟨oc18, od18, .func (PySem.W.fnOf "rule_by" "rule_by" (defArgs s_rule_by) (defBody s_rule_by) (defScope s_rule_by) .none kV18 dc18 pm18 an18 cd18 ct18), sl18⟩) (c18 : PySem.W.codeIn K cd18 "rule_by" = true) (k18 : PySem.W.keepIn K (.ref f18) = true)
    (a19 : PySem.W.nsIn K mainGlobals "check_words" = some (some (.ref f19)))
    (l19 : K.lookup f19 = some ⟨oc19, od19, .func (PySem.W.fnOf "check_words" "check_words" (defArgs s_check_words) (defBody s_check_words) (defScope s_check_words) .none kV19 dc19 pm19 an19 cd19 ct19), sl19⟩) (c19 : PySem.W.codeIn K cd19 "check_words" = true) (k19 : PySem.W.keepIn K (.ref f19) = true)
    (a20 : PySem.W.nsIn K mainGlobals "leads_all" = some (some (.ref f20)))
    (l20 : K.lookup f20 = some ⟨oc20, od20, .func (PySem.W.fnOf "leads_all" "leads_all" (defArgs s_leads_all) (defBody s_leads_all) (defScope s_leads_all) .none kV20 dc20 pm20 an20 cd20 ct20), sl20⟩) (c20 : PySem.W.codeIn K cd20 "leads_all" = true) (k20 : PySem.W.keepIn K (.ref f20) = true)
    (a21 : PySem.W.nsIn K mainGlobals "tells" = some (some (.ref f21)))
    (l21 : K.lookup f21 = some ⟨oc21, od21, .func (PySem.W.fnOf "tells" "tells" (defArgs s_tells) (defBody s_tells) (defScope s_tells) .none kV21 dc21 pm21 an21 cd21 ct21), sl21⟩) (c21 : PySem.W.codeIn K cd21 "tells" = true) (k21 : PySem.W.keepIn K (.ref f21) = true)
    (a22 : PySem.W.nsIn K mainGlobals "tells_book" = some (some (.ref f22)))
    (l22 : K.lookup f22 = some ⟨oc22, od22, .func (PySem.W.fnOf "tells_book" "tells_book" (defArgs s_tells_book) (defBody s_tells_book) (defScope s_tells_book) .none kV22 dc22 pm22 an22 cd22 ct22), sl22⟩) (c22 : PySem.W.codeIn K cd22 "tells_book" = true) (k22 : PySem.W.keepIn K (.ref f22) = true)
    (a23 : PySem.W.nsIn K mainGlobals "rules_for" = some (some (.ref f23)))
    (l23 : K.lookup f23 = some ⟨oc23, od23, .func (PySem.W.fnOf "rules_for" "rules_for" (defArgs s_rules_for) (defBody s_rules_for) (defScope s_rules_for) .none kV23 dc23 pm23 an23 cd23 ct23), sl23⟩) (c23 : PySem.W.codeIn K cd23 "rules_for" = true) (k23 : PySem.W.keepIn K (.ref f23) = true)
    (a24 : PySem.W.nsIn K mainGlobals "needless" = some (some (.ref f24)))
    (l24 : K.lookup f24 = some ⟨oc24, od24, .func (PySem.W.fnOf "needless" "needless" (defArgs s_needless) (defBody s_needless) (defScope s_needless) .none kV24 dc24 pm24 an24 cd24 ct24), sl24⟩) (c24 : PySem.W.codeIn K cd24 "needless" = true) (k24 : PySem.W.keepIn K (.ref f24) = true)
    (a25 : PySem.W.nsIn K mainGlobals "told_words" = some (some (.ref f25)))
    (l25 : K.lookup f25 = some ⟨oc25, od25, .func (PySem.W.fnOf "told_words" "told_words" (defArgs s_told_words) (defBody s_told_words) (defScope s_told_words) .none kV25 dc25 pm25 an25 cd25 ct25), sl25⟩) (c25 : PySem.W.codeIn K cd25 "told_words" = true) (k25 : PySem.W.keepIn K (.ref f25) = true)
    (a26 : PySem.W.nsIn K mainGlobals "masks_by_size" = some (some (.ref f26)))
    (l26 : K.lookup f26 = some ⟨oc26, od26, .func (PySem.W.fnOf "masks_by_size" "masks_by_size" (defArgs s_masks_by_size) (defBody s_masks_by_size) (defScope s_masks_by_size) .none kV26 dc26 pm26 an26 cd26 ct26), sl26⟩) (c26 : PySem.W.codeIn K cd26 "masks_by_size" = true) (k26 : PySem.W.keepIn K (.ref f26) = true)
    (a27 : PySem.W.nsIn K mainGlobals "chosen" = some (some (.ref f27)))
    (l27 : K.lookup f27 = some ⟨oc27, od27, .func (PySem.W.fnOf "chosen" "chosen" (defArgs s_chosen) (defBody s_chosen) (defScope s_chosen) .none kV27 dc27 pm27 an27 cd27 ct27), sl27⟩) (c27 : PySem.W.codeIn K cd27 "chosen" = true) (k27 : PySem.W.keepIn K (.ref f27) = true)
    (a28 : PySem.W.nsIn K mainGlobals "least_masks" = some (some (.ref f28)))
    (l28 : K.lookup f28 = some ⟨oc28, od28, .func (PySem.W.fnOf "least_masks" "least_masks" (defArgs s_least_masks) (defBody s_least_masks) (defScope s_least_masks) .none kV28 dc28 pm28 an28 cd28 ct28), sl28⟩) (c28 : PySem.W.codeIn K cd28 "least_masks" = true) (k28 : PySem.W.keepIn K (.ref f28) = true)
    (a29 : PySem.W.nsIn K mainGlobals "greatest_masks" = some (some (.ref f29)))
    (l29 : K.lookup f29 = some ⟨oc29, od29, .func (PySem.W.fnOf "greatest_masks" "greatest_masks" (defArgs s_greatest_masks) (defBody s_greatest_masks) (defScope s_greatest_masks) .none kV29 dc29 pm29 an29 cd29 ct29), sl29⟩) (c29 : PySem.W.codeIn K cd29 "greatest_masks" = true) (k29 : PySem.W.keepIn K (.ref f29) = true)
    (a30 : PySem.W.nsIn K mainGlobals "check_few" = some (some (.ref f30)))
    (l30 : K.lookup f30 = some ⟨oc30, od30, .func (PySem.W.fnOf "check_few" "check_few" (defArgs s_check_few) (defBody s_check_few) (defScope s_check_few) .none kV30 dc30 pm30 an30 cd30 ct30), sl30⟩) (c30 : PySem.W.codeIn K cd30 "check_few" = true) (k30 : PySem.W.keepIn K (.ref f30) = true)
    (a31 : PySem.W.nsIn K mainGlobals "as_lots" = some (some (.ref f31)))
    (l31 : K.lookup f31 = some ⟨oc31, od31, .func (PySem.W.fnOf "as_lots" "as_lots" (defArgs s_as_lots) (defBody s_as_lots) (defScope s_as_lots) .none kV31 dc31 pm31 an31 cd31 ct31), sl31⟩) (c31 : PySem.W.codeIn K cd31 "as_lots" = true) (k31 : PySem.W.keepIn K (.ref f31) = true)
    (a32 : PySem.W.nsIn K mainGlobals "least_lots" = some (some (.ref f32)))
    {cc32 pp32 : Addr} {lo32 : Value} {ld32 : Option Addr} {lv32 : Array Value} {ls32 : Array (Option Value)}
    (l32 : K.lookup f32 = some ⟨oc32, od32, .func (PySem.W.fnOf "least_lots" "least_lots" (defArgs s_least_lots) (defBody s_least_lots) (defScope s_least_lots) .none kV32 dc32 pm32 an32 (.ref cc32) ct32), sl32⟩) (c32 : PySem.W.codeIn K (.ref cc32) "least_lots" = true) (k32 : PySem.W.keepIn K (.ref f32) = true)
    (lc32 : K.lookup cc32 = some ⟨lo32, ld32, .fields lv32, ls32⟩) (lp32 : (lv32[11]? : Option Value) = some (.ref pp32)) (lh32 : PySem.W.codeHdIn K cc32 pp32 = true) (ln32 : K.lookup pp32 = none) (lt32 : h.get? pp32 = some { cls := .none, data := .fields #[] })
    (a33 : PySem.W.nsIn K mainGlobals "unable_lots" = some (some (.ref f33)))
    {cc33 pp33 : Addr} {lo33 : Value} {ld33 : Option Addr} {lv33 : Array Value} {ls33 : Array (Option Value)}
    (l33 : K.lookup f33 = some ⟨oc33, od33, .func (PySem.W.fnOf "unable_lots" "unable_lots" (defArgs s_unable_lots) (defBody s_unable_lots) (defScope s_unable_lots) .none kV33 dc33 pm33 an33 (.ref cc33) ct33), sl33⟩) (c33 : PySem.W.codeIn K (.ref cc33) "unable_lots" = true) (k33 : PySem.W.keepIn K (.ref f33) = true)
    (lc33 : K.lookup cc33 = some ⟨lo33, ld33, .fields lv33, ls33⟩) (lp33 : (lv33[11]? : Option Value) = some (.ref pp33)) (lh33 : PySem.W.codeHdIn K cc33 pp33 = true) (ln33 : K.lookup pp33 = none) (lt33 : h.get? pp33 = some { cls := .none, data := .fields #[] })
    (a34 : PySem.W.nsIn K mainGlobals "is_sublot" = some (some (.ref f34)))
    (l34 : K.lookup f34 = some ⟨oc34, od34, .func (PySem.W.fnOf "is_sublot" "is_sublot" (defArgs s_is_sublot) (defBody s_is_sublot) (defScope s_is_sublot) .none kV34 dc34 pm34 an34 cd34 ct34), sl34⟩) (c34 : PySem.W.codeIn K cd34 "is_sublot" = true) (k34 : PySem.W.keepIn K (.ref f34) = true)
    (a35 : PySem.W.nsIn K mainGlobals "is_least_lot" = some (some (.ref f35)))
    (l35 : K.lookup f35 = some ⟨oc35, od35, .func (PySem.W.fnOf "is_least_lot" "is_least_lot" (defArgs s_is_least_lot) (defBody s_is_least_lot) (defScope s_is_least_lot) .none kV35 dc35 pm35 an35 cd35 ct35), sl35⟩) (c35 : PySem.W.codeIn K cd35 "is_least_lot" = true) (k35 : PySem.W.keepIn K (.ref f35) = true)
    (a36 : PySem.W.nsIn K mainGlobals "is_unable_lot" = some (some (.ref f36)))
    (l36 : K.lookup f36 = some ⟨oc36, od36, .func (PySem.W.fnOf "is_unable_lot" "is_unable_lot" (defArgs s_is_unable_lot) (defBody s_is_unable_lot) (defScope s_is_unable_lot) .none kV36 dc36 pm36 an36 cd36 ct36), sl36⟩) (c36 : PySem.W.codeIn K cd36 "is_unable_lot" = true) (k36 : PySem.W.keepIn K (.ref f36) = true)
    (a37 : PySem.W.nsIn K mainGlobals "_law_tape" = some (some (.ref f37)))
    (l37 : K.lookup f37 = some ⟨oc37, od37, .func (PySem.W.fnOf "_law_tape" "_law_tape" (defArgs s_l_tape) (defBody s_l_tape) (defScope s_l_tape) .none kV37 dc37 pm37 an37 cd37 ct37), sl37⟩) (c37 : PySem.W.codeIn K cd37 "_law_tape" = true) (k37 : PySem.W.keepIn K (.ref f37) = true)
    (a38 : PySem.W.nsIn K mainGlobals "_law_pick" = some (some (.ref f38)))
    (l38 : K.lookup f38 = some ⟨oc38, od38, .func (PySem.W.fnOf "_law_pick" "_law_pick" (defArgs s_l_pick) (defBody s_l_pick) (defScope s_l_pick) .none kV38 dc38 pm38 an38 cd38 ct38), sl38⟩) (c38 : PySem.W.codeIn K cd38 "_law_pick" = true) (k38 : PySem.W.keepIn K (.ref f38) = true)
    (a39 : PySem.W.nsIn K mainGlobals "_law_letters" = some (some (.ref f39)))
    (l39 : K.lookup f39 = some ⟨oc39, od39, .func (PySem.W.fnOf "_law_letters" "_law_letters" (defArgs s_l_letters) (defBody s_l_letters) (defScope s_l_letters) .none kV39 dc39 pm39 an39 cd39 ct39), sl39⟩) (c39 : PySem.W.codeIn K cd39 "_law_letters" = true) (k39 : PySem.W.keepIn K (.ref f39) = true)
    (a40 : PySem.W.nsIn K mainGlobals "_law_word" = some (some (.ref f40)))
    (l40 : K.lookup f40 = some ⟨oc40, od40, .func (PySem.W.fnOf "_law_word" "_law_word" (defArgs s_l_word) (defBody s_l_word) (defScope s_l_word) .none kV40 dc40 pm40 an40 cd40 ct40), sl40⟩) (c40 : PySem.W.codeIn K cd40 "_law_word" = true) (k40 : PySem.W.keepIn K (.ref f40) = true)
    (a41 : PySem.W.nsIn K mainGlobals "_law_piece" = some (some (.ref f41)))
    (l41 : K.lookup f41 = some ⟨oc41, od41, .func (PySem.W.fnOf "_law_piece" "_law_piece" (defArgs s_l_piece) (defBody s_l_piece) (defScope s_l_piece) .none kV41 dc41 pm41 an41 cd41 ct41), sl41⟩) (c41 : PySem.W.codeIn K cd41 "_law_piece" = true) (k41 : PySem.W.keepIn K (.ref f41) = true)
    (a42 : PySem.W.nsIn K mainGlobals "_law_pathed" = some (some (.ref f42)))
    (l42 : K.lookup f42 = some ⟨oc42, od42, .func (PySem.W.fnOf "_law_pathed" "_law_pathed" (defArgs s_l_pathed) (defBody s_l_pathed) (defScope s_l_pathed) .none kV42 dc42 pm42 an42 cd42 ct42), sl42⟩) (c42 : PySem.W.codeIn K cd42 "_law_pathed" = true) (k42 : PySem.W.keepIn K (.ref f42) = true)
    (a43 : PySem.W.nsIn K mainGlobals "_law_watches" = some (some (.ref f43)))
    (l43 : K.lookup f43 = some ⟨oc43, od43, .func (PySem.W.fnOf "_law_watches" "_law_watches" (defArgs s_l_watches) (defBody s_l_watches) (defScope s_l_watches) .none kV43 dc43 pm43 an43 cd43 ct43), sl43⟩) (c43 : PySem.W.codeIn K cd43 "_law_watches" = true) (k43 : PySem.W.keepIn K (.ref f43) = true)
    (a44 : PySem.W.nsIn K mainGlobals "_law_odd" = some (some (.ref f44)))
    (l44 : K.lookup f44 = some ⟨oc44, od44, .func (PySem.W.fnOf "_law_odd" "_law_odd" (defArgs s_l_odd) (defBody s_l_odd) (defScope s_l_odd) .none kV44 dc44 pm44 an44 cd44 ct44), sl44⟩) (c44 : PySem.W.codeIn K cd44 "_law_odd" = true) (k44 : PySem.W.keepIn K (.ref f44) = true)
    (a45 : PySem.W.nsIn K mainGlobals "_law_is_word" = some (some (.ref f45)))
    (l45 : K.lookup f45 = some ⟨oc45, od45, .func (PySem.W.fnOf "_law_is_word" "_law_is_word" (defArgs s_l_is_word) (defBody s_l_is_word) (defScope s_l_is_word) .none kV45 dc45 pm45 an45 cd45 ct45), sl45⟩) (c45 : PySem.W.codeIn K cd45 "_law_is_word" = true) (k45 : PySem.W.keepIn K (.ref f45) = true)
    (a46 : PySem.W.nsIn K mainGlobals "_law_asked" = some (some (.ref f46)))
    (l46 : K.lookup f46 = some ⟨oc46, od46, .func (PySem.W.fnOf "_law_asked" "_law_asked" (defArgs s_l_asked) (defBody s_l_asked) (defScope s_l_asked) .none kV46 dc46 pm46 an46 cd46 ct46), sl46⟩) (c46 : PySem.W.codeIn K cd46 "_law_asked" = true) (k46 : PySem.W.keepIn K (.ref f46) = true)
    (a47 : PySem.W.nsIn K mainGlobals "_law_tried" = some (some (.ref f47)))
    (l47 : K.lookup f47 = some ⟨oc47, od47, .func (PySem.W.fnOf "_law_tried" "_law_tried" (defArgs s_l_tried) (defBody s_l_tried) (defScope s_l_tried) .none kV47 dc47 pm47 an47 cd47 ct47), sl47⟩) (c47 : PySem.W.codeIn K cd47 "_law_tried" = true) (k47 : PySem.W.keepIn K (.ref f47) = true)
    (a48 : PySem.W.nsIn K mainGlobals "_law_fault" = some (some (.ref f48)))
    (l48 : K.lookup f48 = some ⟨oc48, od48, .func (PySem.W.fnOf "_law_fault" "_law_fault" (defArgs s_l_fault) (defBody s_l_fault) (defScope s_l_fault) .none kV48 dc48 pm48 an48 cd48 ct48), sl48⟩) (c48 : PySem.W.codeIn K cd48 "_law_fault" = true) (k48 : PySem.W.keepIn K (.ref f48) = true)
    (a49 : PySem.W.nsIn K mainGlobals "_law_bad_words" = some (some (.ref f49)))
    (l49 : K.lookup f49 = some ⟨oc49, od49, .func (PySem.W.fnOf "_law_bad_words" "_law_bad_words" (defArgs s_l_bad_words) (defBody s_l_bad_words) (defScope s_l_bad_words) .none kV49 dc49 pm49 an49 cd49 ct49), sl49⟩) (c49 : PySem.W.codeIn K cd49 "_law_bad_words" = true) (k49 : PySem.W.keepIn K (.ref f49) = true)
    (a50 : PySem.W.nsIn K mainGlobals "_law_good_letters" = some (some (.ref f50)))
    (l50 : K.lookup f50 = some ⟨oc50, od50, .func (PySem.W.fnOf "_law_good_letters" "_law_good_letters" (defArgs s_l_good_letters) (defBody s_l_good_letters) (defScope s_l_good_letters) .none kV50 dc50 pm50 an50 cd50 ct50), sl50⟩) (c50 : PySem.W.codeIn K cd50 "_law_good_letters" = true) (k50 : PySem.W.keepIn K (.ref f50) = true)
    (a51 : PySem.W.nsIn K mainGlobals "_law_due" = some (some (.ref f51)))
    (l51 : K.lookup f51 = some ⟨oc51, od51, .func (PySem.W.fnOf "_law_due" "_law_due" (defArgs s_l_due) (defBody s_l_due) (defScope s_l_due) .none kV51 dc51 pm51 an51 cd51 ct51), sl51⟩) (c51 : PySem.W.codeIn K cd51 "_law_due" = true) (k51 : PySem.W.keepIn K (.ref f51) = true)
    (a52 : PySem.W.nsIn K mainGlobals "law" = some (some (.ref f52)))
    (l52 : K.lookup f52 = some ⟨oc52, od52, .func (PySem.W.fnOf "law" "law" (defArgs s_law) (defBody s_law) (defScope s_law) .none kV52 dc52 pm52 an52 cd52 ct52), sl52⟩) (c52 : PySem.W.codeIn K cd52 "law" = true) (k52 : PySem.W.keepIn K (.ref f52) = true)
    (z0 : PySem.W.nsIn K mainGlobals "isinstance" = some none)
    (z1 : PySem.W.nsIn K mainGlobals "int" = some none)
    (z2 : PySem.W.nsIn K mainGlobals "bool" = some none)
    (z3 : PySem.W.nsIn K mainGlobals "str" = some none)
    (z4 : PySem.W.nsIn K mainGlobals "all" = some none)
    (z5 : PySem.W.nsIn K mainGlobals "len" = some none)
    (z6 : PySem.W.nsIn K mainGlobals "sorted" = some none)
    (z7 : PySem.W.nsIn K mainGlobals "enumerate" = some none)
    (z8 : PySem.W.nsIn K mainGlobals "tuple" = some none)
    (z9 : PySem.W.nsIn K mainGlobals "list" = some none)
    (z10 : PySem.W.nsIn K mainGlobals "range" = some none)
    (z11 : PySem.W.nsIn K mainGlobals "zip" = some none)
    (z12 : PySem.W.nsIn K mainGlobals "set" = some none)
    (z13 : PySem.W.nsIn K mainGlobals "sum" = some none)
    (z14 : PySem.W.nsIn K mainGlobals "any" = some none)
    (z15 : PySem.W.nsIn K mainGlobals "min" = some none)
    (z16 : PySem.W.nsIn K mainGlobals "max" = some none)
    (z17 : PySem.W.nsIn K mainGlobals "repr" = some none)
    {t0 : Tok} (y0 : PySem.W.nsIn K mainGlobals "LETTERS" = some (some (.str "abcdefghijklmnopqrstuvwxyz" t0)))
    {t1 : Tok} (y1 : PySem.W.nsIn K mainGlobals "MOST_WORD" = some (some (.int 40 t1)))
    {t2 : Tok} (y2 : PySem.W.nsIn K mainGlobals "MOST_WATCH" = some (some (.int 12 t2)))
    {t3 : Tok} (y3 : PySem.W.nsIn K mainGlobals "MOST_WATCHES" = some (some (.int 12 t3)))
    {t4 : Tok} (y4 : PySem.W.nsIn K mainGlobals "MOST_WORDS" = some (some (.int 20 t4)))
    {t5 : Tok} (y5 : PySem.W.nsIn K mainGlobals "MOST_LETTERS" = some (some (.int 3 t5)))
    {t6 : Tok} (y6 : PySem.W.nsIn K mainGlobals "MOST_SIZE" = some (some (.int 6 t6)))
    {t7 : Tok} (y7 : PySem.W.nsIn K mainGlobals "MOST_TRIED" = some (some (.int 10 t7)))
    (le32_33 : pp32 ≠ pp33)
    : Rk.LawAtG l w K (fun _ _ _ _ _ _ => False) 9 63 "_law_script" mg fa h := by
  have e := hfa.symm.trans (PySem.W.mg_of X G a52)
  cases e
  have D1 : FunD K "__init__" "WayError.__init__" (defArgs s_WayError_init) (defBody s_WayError_init) (defScope s_WayError_init) [.non] [] f1 _ := ⟨⟨oc1, od1, .ref dT, kV1, dc1, pm1, an1, cd1, ct1, sl1, rfl, l1, c1, .inr ⟨by simp, dT, _, [.none], tN, rfl, lT, rfl, .cons rfl .nil⟩, .inl rfl⟩, k1⟩
  obtain ⟨dsW, rW, bW⟩ := D1.binds1 (ps := ["self", "value"]) 1 0 (by simp) rfl (fun _ _ _ _ _ _ _ us its h1 h2 => match us, its, h1, h2 with | [_], [_], _, _ => ⟨_, rfl, rfl⟩)
  have F2 := fun_mk (st := s_is_integer) l2 c2 k2
  have F3 := fun_mk (st := s_is_letters) l3 c3 k3
  have F4 := fun_mk (st := s_is_word) l4 c4 k4
  have F5 := fun_mk (st := s_is_watch) l5 c5 k5
  have F6 := fun_mk (st := s_text_key) l6 c6 k6
  have F7 := fun_mk (st := s_row_key) l7 c7 k7
  have F8 := fun_mk (st := s_in_order) l8 c8 k8
  have F9 := fun_mk (st := s_Book_init) l9 c9 k9
  have F10 := fun_mk (st := s_check_book) l10 c10 k10
  have F11 := fun_mk (st := s_ordered_watches) l11 c11 k11
  have F12 := fun_mk (st := s_links_of) l12 c12 k12
  have F13 := fun_mk (st := s_grown) l13 c13 k13
  have F14 := fun_mk (st := s_leads) l14 c14 k14
  have F15 := fun_mk (st := s_distances) l15 c15 k15
  have F16 := fun_mk (st := s_shortest) l16 c16 k16
  have F17 := fun_mk (st := s_steps_between) l17 c17 k17
  have F18 := fun_mk (st := s_rule_by) l18 c18 k18
  have F19 := fun_mk (st := s_check_words) l19 c19 k19
  have F20 := fun_mk (st := s_leads_all) l20 c20 k20
  have F21 := fun_mk (st := s_tells) l21 c21 k21
  have F22 := fun_mk (st := s_tells_book) l22 c22 k22
  have F23 := fun_mk (st := s_rules_for) l23 c23 k23
  have F24 := fun_mk (st := s_needless) l24 c24 k24
  have F25 := fun_mk (st := s_told_words) l25 c25 k25
  have F26 := fun_mk (st := s_masks_by_size) l26 c26 k26
  have F27 := fun_mk (st := s_chosen) l27 c27 k27
  have F28 := fun_mk (st := s_least_masks) l28 c28 k28
  have F29 := fun_mk (st := s_greatest_masks) l29 c29 k29
  have F30 := fun_mk (st := s_check_few) l30 c30 k30
  have F31 := fun_mk (st := s_as_lots) l31 c31 k31
  have F32 := fun_mk (st := s_least_lots) l32 c32 k32
  have F33 := fun_mk (st := s_unable_lots) l33 c33 k33
  have F34 := fun_mk (st := s_is_sublot) l34 c34 k34
  have F35 := fun_mk (st := s_is_least_lot) l35 c35 k35
  have F36 := fun_mk (st := s_is_unable_lot) l36 c36 k36
  have F37 := fun_mk (st := s_l_tape) l37 c37 k37
  have F38 := fun_mk (st := s_l_pick) l38 c38 k38
  have F39 := fun_mk (st := s_l_letters) l39 c39 k39
  have F40 := fun_mk (st := s_l_word) l40 c40 k40
  have F41 := fun_mk (st := s_l_piece) l41 c41 k41
  have F42 := fun_mk (st := s_l_pathed) l42 c42 k42
  have F43 := fun_mk (st := s_l_watches) l43 c43 k43
  have F44 := fun_mk (st := s_l_odd) l44 c44 k44
  have F45 := fun_mk (st := s_l_is_word) l45 c45 k45
  have F46 := fun_mk (st := s_l_asked) l46 c46 k46
  have F47 := fun_mk (st := s_l_tried) l47 c47 k47
  have F48 := fun_mk (st := s_l_fault) l48 c48 k48
  have F49 := fun_mk (st := s_l_bad_words) l49 c49 k49
  have F50 := fun_mk (st := s_l_good_letters) l50 c50 k50
  have F51 := fun_mk (st := s_l_due) l51 c51 k51
  have F52 := fun_mk (st := s_law) l52 c52 k52
  let T : Txt K mg := {
    C_Book := C0, c_Book := PySem.W.mg_of X G u0,
    cl_Book := ⟨pg0, hd0, po0, sa0⟩, ty_Book := ⟨wc0, wn0, wt0, wm0, kit_self⟩,
    na_Book_watches := na0_0,
    ki_Book := fx0_0,
    kb_Book := fx0_1,
    ic_Book := fx0_2,
    tc_Book := fx0_3,
    sl_Book := fx0_4,
    ks_Book := fx0_5,
    C_BadWatches := E0, c_BadWatches := PySem.W.mg_of X G ue0, X_BadWatches := ⟨⟨⟨_, _, _, _, _, _, _, _, _, _, _, _, _, _, _, xl0, rb0⟩, xa0, xb0, xc0, xd0⟩, ⟨xg0, xh0, xb0, xi0, xj0, xn, xo, xm0⟩, xe0, xf0, xp0, xs0⟩,
    C_BadBook := E1, c_BadBook := PySem.W.mg_of X G ue1, X_BadBook := ⟨⟨⟨_, _, _, _, _, _, _, _, _, _, _, _, _, _, _, xl1, rb1⟩, xa1, xb1, xc1, xd1⟩, ⟨xg1, xh1, xb1, xi1, xj1, xn, xo, xm1⟩, xe1, xf1, xp1, xs1⟩,
    C_BadWords := E2, c_BadWords := PySem.W.mg_of X G ue2, X_BadWords := ⟨⟨⟨_, _, _, _, _, _, _, _, _, _, _, _, _, _, _, xl2, rb2⟩, xa2, xb2, xc2, xd2⟩, ⟨xg2, xh2, xb2, xi2, xj2, xn, xo, xm2⟩, xe2, xf2, xp2, xs2⟩,
    C_BadLetters := E3, c_BadLetters := PySem.W.mg_of X G ue3, X_BadLetters := ⟨⟨⟨_, _, _, _, _, _, _, _, _, _, _, _, _, _, _, xl3, rb3⟩, xa3, xb3, xc3, xd3⟩, ⟨xg3, xh3, xb3, xi3, xj3, xn, xo, xm3⟩, xe3, xf3, xp3, xs3⟩,
    C_BadMost := E4, c_BadMost := PySem.W.mg_of X G ue4, X_BadMost := ⟨⟨⟨_, _, _, _, _, _, _, _, _, _, _, _, _, _, _, xl4, rb4⟩, xa4, xb4, xc4, xd4⟩, ⟨xg4, xh4, xb4, xi4, xj4, xn, xo, xm4⟩, xe4, xf4, xp4, xs4⟩,
    C_TooMany := E5, c_TooMany := PySem.W.mg_of X G ue5, X_TooMany := ⟨⟨⟨_, _, _, _, _, _, _, _, _, _, _, _, _, _, _, xl5, rb5⟩, xa5, xb5, xc5, xd5⟩, ⟨xg5, xh5, xb5, xi5, xj5, xn, xo, xm5⟩, xe5, xf5, xp5, xs5⟩,
    C_WayError := E6, c_WayError := PySem.W.mg_of X G ue6, X_WayError := ⟨⟨⟨_, _, _, _, _, _, _, _, _, _, _, _, _, _, _, xl6, rb6⟩, xa6, xb6, xc6, xd6⟩, ⟨xg6, xh6, xb6, xi6, xj6, xn, xo, xm6⟩, xe6, xf6, xp6, xs6⟩,
    C_BadWord := E7, c_BadWord := PySem.W.mg_of X G ue7, X_BadWord := ⟨⟨⟨_, _, _, _, _, _, _, _, _, _, _, _, _, _, _, xl7, rb7⟩, xa7, xb7, xc7, xd7⟩, ⟨xg7, xh7, xb7, xi7, xj7, xn, xo, xm7⟩, xe7, xf7, xp7, xs7⟩,
    s_BadWatches_WayError := sp0,
    s_BadWatches_BadBook := sp1,
    s_BadWatches_BadWords := sp2,
    s_BadWatches_BadLetters := sp3,
    s_BadWatches_BadMost := sp4,
    s_BadWatches_TooMany := sp5,
    s_BadWatches_BadWord := sp6,
    s_BadBook_WayError := sp7,
    s_BadBook_BadBook := sp8,
    s_BadBook_BadWords := sp9,
    s_BadBook_BadLetters := sp10,
    s_BadBook_BadMost := sp11,
    s_BadBook_TooMany := sp12,
    s_BadBook_BadWord := sp13,
    s_BadWords_WayError := sp14,
    s_BadWords_BadBook := sp15,
    s_BadWords_BadWords := sp16,
    s_BadWords_BadLetters := sp17,
    s_BadWords_BadMost := sp18,
    s_BadWords_TooMany := sp19,
    s_BadWords_BadWord := sp20,
    s_BadLetters_WayError := sp21,
    s_BadLetters_BadBook := sp22,
    s_BadLetters_BadWords := sp23,
    s_BadLetters_BadLetters := sp24,
    s_BadLetters_BadMost := sp25,
    s_BadLetters_TooMany := sp26,
    s_BadLetters_BadWord := sp27,
    s_BadMost_WayError := sp28,
    s_BadMost_BadBook := sp29,
    s_BadMost_BadWords := sp30,
    s_BadMost_BadLetters := sp31,
    s_BadMost_BadMost := sp32,
    s_BadMost_TooMany := sp33,
    s_BadMost_BadWord := sp34,
    s_TooMany_WayError := sp35,
    s_TooMany_BadBook := sp36,
    s_TooMany_BadWords := sp37,
    s_TooMany_BadLetters := sp38,
    s_TooMany_BadMost := sp39,
    s_TooMany_TooMany := sp40,
    s_TooMany_BadWord := sp41,
    f_WayError_init := f1, fd_WayError_init := _, D_WayError_init := D1, b_WayError_init := Rx.binds2 D1 (fun _ _ _ _ _ _ _ us its h1 h2 => match us, its, h1, h2 with | [_, _], [_], _, _ => ⟨_, rfl, rfl⟩), tI_WayError_init := tI, ds_WayError_init := dsW, rd_WayError_init := rW, b1_WayError_init := bW,
    f_is_integer := f2, fd_is_integer := _, F_is_integer := F2, g_is_integer := PySem.W.mg_of X G a2, b_is_integer := F2.binds (ps := ["value"]) fun _ _ _ _ _ _ us hl => match us, hl with | [_], _ => rfl,
    f_is_letters := f3, fd_is_letters := _, F_is_letters := F3, g_is_letters := PySem.W.mg_of X G a3, b_is_letters := F3.binds (ps := ["value"]) fun _ _ _ _ _ _ us hl => match us, hl with | [_], _ => rfl,
    f_is_word := f4, fd_is_word := _, F_is_word := F4, g_is_word := PySem.W.mg_of X G a4, b_is_word := F4.binds (ps := ["thing"]) fun _ _ _ _ _ _ us hl => match us, hl with | [_], _ => rfl,
    f_is_watch := f5, fd_is_watch := _, F_is_watch := F5, g_is_watch := PySem.W.mg_of X G a5, b_is_watch := F5.binds (ps := ["thing"]) fun _ _ _ _ _ _ us hl => match us, hl with | [_], _ => rfl,
    f_text_key := f6, fd_text_key := _, F_text_key := F6, g_text_key := PySem.W.mg_of X G a6, b_text_key := F6.binds (ps := ["text"]) fun _ _ _ _ _ _ us hl => match us, hl with | [_], _ => rfl,
    f_row_key := f7, fd_row_key := _, F_row_key := F7, g_row_key := PySem.W.mg_of X G a7, b_row_key := F7.binds (ps := ["row"]) fun _ _ _ _ _ _ us hl => match us, hl with | [_], _ => rfl,
    f_in_order := f8, fd_in_order := _, F_in_order := F8, g_in_order := PySem.W.mg_of X G a8, b_in_order := F8.binds (ps := ["texts"]) fun _ _ _ _ _ _ us hl => match us, hl with | [_], _ => rfl,
    f_Book_init := f9, fd_Book_init := _, F_Book_init := F9, M_Book := ⟨mk0, a9, i9, kc0⟩, b_Book_init := F9.binds (ps := ["self", "watches"]) fun _ _ _ _ _ _ us hl => match us, hl with | [_, _], _ => rfl,
    f_check_book := f10, fd_check_book := _, F_check_book := F10, g_check_book := PySem.W.mg_of X G a10, b_check_book := F10.binds (ps := ["book"]) fun _ _ _ _ _ _ us hl => match us, hl with | [_], _ => rfl,
    f_ordered_watches := f11, fd_ordered_watches := _, F_ordered_watches := F11, g_ordered_watches := PySem.W.mg_of X G a11, b_ordered_watches := F11.binds (ps := ["book"]) fun _ _ _ _ _ _ us hl => match us, hl with | [_], _ => rfl,
    f_links_of := f12, fd_links_of := _, F_links_of := F12, g_links_of := PySem.W.mg_of X G a12, b_links_of := F12.binds (ps := ["watches", "word"]) fun _ _ _ _ _ _ us hl => match us, hl with | [_, _], _ => rfl,
    f_grown := f13, fd_grown := _, F_grown := F13, g_grown := PySem.W.mg_of X G a13, b_grown := F13.binds (ps := ["links", "spots"]) fun _ _ _ _ _ _ us hl => match us, hl with | [_, _], _ => rfl,
    f_leads := f14, fd_leads := _, F_leads := F14, g_leads := PySem.W.mg_of X G a14, b_leads := F14.binds (ps := ["watches", "word"]) fun _ _ _ _ _ _ us hl => match us, hl with | [_, _], _ => rfl,
    f_distances := f15, fd_distances := _, F_distances := F15, g_distances := PySem.W.mg_of X G a15, b_distances := F15.binds (ps := ["links"]) fun _ _ _ _ _ _ us hl => match us, hl with | [_], _ => rfl,
    f_shortest := f16, fd_shortest := _, F_shortest := F16, g_shortest := PySem.W.mg_of X G a16, b_shortest := F16.binds (ps := ["watches", "word"]) fun _ _ _ _ _ _ us hl => match us, hl with | [_, _], _ => rfl,
    f_steps_between := f17, fd_steps_between := _, F_steps_between := F17, g_steps_between := PySem.W.mg_of X G a17, b_steps_between := F17.binds (ps := ["word", "spots"]) fun _ _ _ _ _ _ us hl => match us, hl with | [_, _], _ => rfl,
    f_rule_by := f18, fd_rule_by := _, F_rule_by := F18, g_rule_by := PySem.W.mg_of X G a18, b_rule_by := F18.binds (ps := ["watches", "word"]) fun _ _ _ _ _ _ us hl => match us, hl with | [_, _], _ => rfl,
    f_check_words := f19, fd_check_words := _, F_check_words := F19, g_check_words := PySem.W.mg_of X G a19, b_check_words := F19.binds (ps := ["words"]) fun _ _ _ _ _ _ us hl => match us, hl with | [_], _ => rfl,
    f_leads_all := f20, fd_leads_all := _, F_leads_all := F20, g_leads_all := PySem.W.mg_of X G a20, b_leads_all := F20.binds (ps := ["watches", "words"]) fun _ _ _ _ _ _ us hl => match us, hl with | [_, _], _ => rfl,
    f_tells := f21, fd_tells := _, F_tells := F21, g_tells := PySem.W.mg_of X G a21, b_tells := F21.binds (ps := ["book", "words"]) fun _ _ _ _ _ _ us hl => match us, hl with | [_, _], _ => rfl,
    f_tells_book := f22, fd_tells_book := _, F_tells_book := F22, g_tells_book := PySem.W.mg_of X G a22, b_tells_book := F22.binds (ps := ["one", "other"]) fun _ _ _ _ _ _ us hl => match us, hl with | [_, _], _ => rfl,
    f_rules_for := f23, fd_rules_for := _, F_rules_for := F23, g_rules_for := PySem.W.mg_of X G a23, b_rules_for := F23.binds (ps := ["one", "other"]) fun _ _ _ _ _ _ us hl => match us, hl with | [_, _], _ => rfl,
    f_needless := f24, fd_needless := _, F_needless := F24, g_needless := PySem.W.mg_of X G a24, b_needless := F24.binds (ps := ["book"]) fun _ _ _ _ _ _ us hl => match us, hl with | [_], _ => rfl,
    f_told_words := f25, fd_told_words := _, F_told_words := F25, g_told_words := PySem.W.mg_of X G a25, b_told_words := F25.binds (ps := ["book", "letters", "most"]) fun _ _ _ _ _ _ us hl => match us, hl with | [_, _, _], _ => rfl,
    f_masks_by_size := f26, fd_masks_by_size := _, F_masks_by_size := F26, g_masks_by_size := PySem.W.mg_of X G a26, b_masks_by_size := F26.binds (ps := ["many"]) fun _ _ _ _ _ _ us hl => match us, hl with | [_], _ => rfl,
    f_chosen := f27, fd_chosen := _, F_chosen := F27, g_chosen := PySem.W.mg_of X G a27, b_chosen := F27.binds (ps := ["things", "mask"]) fun _ _ _ _ _ _ us hl => match us, hl with | [_, _], _ => rfl,
    f_least_masks := f28, fd_least_masks := _, F_least_masks := F28, g_least_masks := PySem.W.mg_of X G a28, b_least_masks := F28.binds (ps := ["many", "works"]) fun _ _ _ _ _ _ us hl => match us, hl with | [_, _], _ => rfl,
    f_greatest_masks := f29, fd_greatest_masks := _, F_greatest_masks := F29, g_greatest_masks := PySem.W.mg_of X G a29, b_greatest_masks := F29.binds (ps := ["many", "works"]) fun _ _ _ _ _ _ us hl => match us, hl with | [_, _], _ => rfl,
    f_check_few := f30, fd_check_few := _, F_check_few := F30, g_check_few := PySem.W.mg_of X G a30, b_check_few := F30.binds (ps := ["book", "words"]) fun _ _ _ _ _ _ us hl => match us, hl with | [_, _], _ => rfl,
    f_as_lots := f31, fd_as_lots := _, F_as_lots := F31, g_as_lots := PySem.W.mg_of X G a31, b_as_lots := F31.binds (ps := ["things", "masks"]) fun _ _ _ _ _ _ us hl => match us, hl with | [_, _], _ => rfl,
    f_least_lots := f32, fd_least_lots := _, F_least_lots := F32, g_least_lots := PySem.W.mg_of X G a32, b_least_lots := F32.binds (ps := ["book", "words"]) fun _ _ _ _ _ _ us hl => match us, hl with | [_, _], _ => rfl,
    f_unable_lots := f33, fd_unable_lots := _, F_unable_lots := F33, g_unable_lots := PySem.W.mg_of X G a33, b_unable_lots := F33.binds (ps := ["book", "words"]) fun _ _ _ _ _ _ us hl => match us, hl with | [_, _], _ => rfl,
    f_is_sublot := f34, fd_is_sublot := _, F_is_sublot := F34, g_is_sublot := PySem.W.mg_of X G a34, b_is_sublot := F34.binds (ps := ["things", "thing"]) fun _ _ _ _ _ _ us hl => match us, hl with | [_, _], _ => rfl,
    f_is_least_lot := f35, fd_is_least_lot := _, F_is_least_lot := F35, g_is_least_lot := PySem.W.mg_of X G a35, b_is_least_lot := F35.binds (ps := ["book", "words", "thing"]) fun _ _ _ _ _ _ us hl => match us, hl with | [_, _, _], _ => rfl,
    f_is_unable_lot := f36, fd_is_unable_lot := _, F_is_unable_lot := F36, g_is_unable_lot := PySem.W.mg_of X G a36, b_is_unable_lot := F36.binds (ps := ["book", "words", "thing"]) fun _ _ _ _ _ _ us hl => match us, hl with | [_, _, _], _ => rfl,
    f_l_tape := f37, fd_l_tape := _, F_l_tape := F37, g_l_tape := PySem.W.mg_of X G a37, b_l_tape := F37.binds (ps := ["_law_script"]) fun _ _ _ _ _ _ us hl => match us, hl with | [_], _ => rfl,
    f_l_pick := f38, fd_l_pick := _, F_l_pick := F38, g_l_pick := PySem.W.mg_of X G a38, b_l_pick := F38.binds (ps := ["_law_tape_here", "_law_size"]) fun _ _ _ _ _ _ us hl => match us, hl with | [_, _], _ => rfl,
    f_l_letters := f39, fd_l_letters := _, F_l_letters := F39, g_l_letters := PySem.W.mg_of X G a39, b_l_letters := F39.binds (ps := ["_law_tape_here"]) fun _ _ _ _ _ _ us hl => match us, hl with | [_], _ => rfl,
    f_l_word := f40, fd_l_word := _, F_l_word := F40, g_l_word := PySem.W.mg_of X G a40, b_l_word := F40.binds (ps := ["_law_tape_here", "_law_letters_here", "_law_least", "_law_most"]) fun _ _ _ _ _ _ us hl => match us, hl with | [_, _, _, _], _ => rfl,
    f_l_piece := f41, fd_l_piece := _, F_l_piece := F41, g_l_piece := PySem.W.mg_of X G a41, b_l_piece := F41.binds (ps := ["_law_tape_here", "_law_word_here"]) fun _ _ _ _ _ _ us hl => match us, hl with | [_, _], _ => rfl,
    f_l_pathed := f42, fd_l_pathed := _, F_l_pathed := F42, g_l_pathed := PySem.W.mg_of X G a42, b_l_pathed := F42.binds (ps := ["_law_tape_here", "_law_word_here"]) fun _ _ _ _ _ _ us hl => match us, hl with | [_, _], _ => rfl,
    f_l_watches := f43, fd_l_watches := _, F_l_watches := F43, g_l_watches := PySem.W.mg_of X G a43, b_l_watches := F43.binds (ps := ["_law_tape_here", "_law_word_here", "_law_letters_here", "_law_most"]) fun _ _ _ _ _ _ us hl => match us, hl with | [_, _, _, _], _ => rfl,
    f_l_odd := f44, fd_l_odd := _, F_l_odd := F44, g_l_odd := PySem.W.mg_of X G a44, b_l_odd := F44.binds (ps := ["_law_tape_here"]) fun _ _ _ _ _ _ us hl => match us, hl with | [_], _ => rfl,
    f_l_is_word := f45, fd_l_is_word := _, F_l_is_word := F45, g_l_is_word := PySem.W.mg_of X G a45, b_l_is_word := F45.binds (ps := ["_law_thing", "_law_most"]) fun _ _ _ _ _ _ us hl => match us, hl with | [_, _], _ => rfl,
    f_l_asked := f46, fd_l_asked := _, F_l_asked := F46, g_l_asked := PySem.W.mg_of X G a46, b_l_asked := F46.binds (ps := ["_law_kind", "_law_book", "_law_thing", "_law_more"]) fun _ _ _ _ _ _ us hl => match us, hl with | [_, _, _, _], _ => rfl,
    f_l_tried := f47, fd_l_tried := _, F_l_tried := F47, g_l_tried := PySem.W.mg_of X G a47, b_l_tried := F47.binds (ps := ["_law_kind", "_law_book", "_law_thing", "_law_more"]) fun _ _ _ _ _ _ us hl => match us, hl with | [_, _, _, _], _ => rfl,
    f_l_fault := f48, fd_l_fault := _, F_l_fault := F48, g_l_fault := PySem.W.mg_of X G a48, b_l_fault := F48.binds (ps := ["_law_words"]) fun _ _ _ _ _ _ us hl => match us, hl with | [_], _ => rfl,
    f_l_bad_words := f49, fd_l_bad_words := _, F_l_bad_words := F49, g_l_bad_words := PySem.W.mg_of X G a49, b_l_bad_words := F49.binds (ps := ["_law_tape_here", "_law_words"]) fun _ _ _ _ _ _ us hl => match us, hl with | [_, _], _ => rfl,
    f_l_good_letters := f50, fd_l_good_letters := _, F_l_good_letters := F50, g_l_good_letters := PySem.W.mg_of X G a50, b_l_good_letters := F50.binds (ps := ["_law_thing"]) fun _ _ _ _ _ _ us hl => match us, hl with | [_], _ => rfl,
    f_l_due := f51, fd_l_due := _, F_l_due := F51, g_l_due := PySem.W.mg_of X G a51, b_l_due := F51.binds (ps := ["_law_kind", "_law_book", "_law_thing", "_law_more"]) fun _ _ _ _ _ _ us hl => match us, hl with | [_, _, _, _], _ => rfl,
    f_law := fa, fd_law := _, F_law := F52, g_law := PySem.W.mg_of X G a52, b_law := F52.binds (ps := ["_law_script"]) fun _ _ _ _ _ _ us hl => match us, hl with | [_], _ => rfl,
    n_isinstance := PySem.W.mg_none_of X G z0,
    n_int := PySem.W.mg_none_of X G z1,
    n_bool := PySem.W.mg_none_of X G z2,
    n_str := PySem.W.mg_none_of X G z3,
    n_all := PySem.W.mg_none_of X G z4,
    n_len := PySem.W.mg_none_of X G z5,
    n_sorted := PySem.W.mg_none_of X G z6,
    n_enumerate := PySem.W.mg_none_of X G z7,
    n_tuple := PySem.W.mg_none_of X G z8,
    n_list := PySem.W.mg_none_of X G z9,
    n_range := PySem.W.mg_none_of X G z10,
    n_zip := PySem.W.mg_none_of X G z11,
    n_set := PySem.W.mg_none_of X G z12,
    n_sum := PySem.W.mg_none_of X G z13,
    n_any := PySem.W.mg_none_of X G z14,
    n_min := PySem.W.mg_none_of X G z15,
    n_max := PySem.W.mg_none_of X G z16,
    n_repr := PySem.W.mg_none_of X G z17,
    t_LETTERS := t0, m_LETTERS := PySem.W.mg_of X G y0,
    t_MOST_WORD := t1, m_MOST_WORD := PySem.W.mg_of X G y1,
    t_MOST_WATCH := t2, m_MOST_WATCH := PySem.W.mg_of X G y2,
    t_MOST_WATCHES := t3, m_MOST_WATCHES := PySem.W.mg_of X G y3,
    t_MOST_WORDS := t4, m_MOST_WORDS := PySem.W.mg_of X G y4,
    t_MOST_LETTERS := t5, m_MOST_LETTERS := PySem.W.mg_of X G y5,
    t_MOST_SIZE := t6, m_MOST_SIZE := PySem.W.mg_of X G y6,
    t_MOST_TRIED := t7, m_MOST_TRIED := PySem.W.mg_of X G y7,
    cc_least_lots := cc32, pp_least_lots := pp32, cd_least_lots := rfl,
    cc_unable_lots := cc33, pp_unable_lots := pp33, cd_unable_lots := rfl,
    pq_least_lots_unable_lots := le32_33 }
  have h1 : ∀ p ∈ ([(cc32, pp32), (cc33, pp33)] : List (Addr × Addr)), h.get? p.2 = some { cls := .none, data := .fields #[] } := fun p hp => by
    simp only [List.mem_cons, List.not_mem_nil, or_false] at hp
    rcases hp with rfl | rfl
    · exact lt32
    · exact lt33
  have h2 : ∀ p ∈ ([(cc32, pp32), (cc33, pp33)] : List (Addr × Addr)), K.lookup p.2 = none := fun p hp => by
    simp only [List.mem_cons, List.not_mem_nil, or_false] at hp
    rcases hp with rfl | rfl
    · exact ln32
    · exact ln33
  have h3 : ∀ p ∈ ([(cc32, pp32), (cc33, pp33)] : List (Addr × Addr)), PySem.W.CodeHd h p.1 p.2 := fun p hp => by
    simp only [List.mem_cons, List.not_mem_nil, or_false] at hp
    rcases hp with rfl | rfl
    · exact PySem.W.codeHd_of_K X lh32
    · exact PySem.W.codeHd_of_K X lh33
  refine ⟨_, [(cc32, pp32), (cc33, pp33)], sp_law K (TT T), h1, h2, h3, fun s v => .of_eq rfl, fun H a ns hl _ hT hS => ⟨a, ns, rfl, hS, hl, ?_, fun _ => rfl⟩, fun base _ _ TB => ok_law T TB⟩
  intro p hp
  simp only [TT, List.mem_cons, List.not_mem_nil, or_false] at hp
  rcases hp with rfl | rfl
  · exact LamX.TabS.nil (hT _ (.head _))
  · exact LamX.TabS.nil (hT _ (.tail _ (.head _)))
theorem walk {l : PySem.W.OpenLaw} {q : Program} {loose : List Str} {XP : (Str → Option Value) → Heap → Prop} {YP : World → Heap → Prop} {d : DefRec} {K : Params → PySem.W.Frag} (hn : l.most = some 63) (hdf : d.params.defaults = [])
    (hY : ∀ (w : World) (h : Heap), YP w h → (K w.params).In h)
    (F : ∀ (w : World) (mg : Str → Option Value) (fa : Addr) (h : Heap), YP w h → (K w.params).In h → h.Ns mainGlobals mg → mg d.name = some (.ref fa) → Rk.LawAtG l w (K w.params) (fun _ _ _ _ _ _ => False) 9 63 "_law_script" mg fa h) :
    PySem.W.WalkO q loose XP YP l.row.toRowW d [] (fun f vs => PySem.call f vs) :=
  Rk.walk_ofTG (n := 63) (k := 9) (x := "_law_script") (CX := fun _ _ _ _ _ _ _ => False) hn (by decide) hdf ⟨rfl, by decide, by decide⟩ hY F fun _ _ _ _ _ z => z
end W
open PySem PySem.W PyProof.Rows
set_option maxRecDepth 100000 in
set_option maxHeartbeats 0 in
theorem PySem.Challenge.cw_watchedways_k71_telling_refused_holds : PySem.Challenge.rw_watchedways_k71_telling_refused.Holds := by
  w_on; o_law; k_head; (case hw => w_witness2)
  k_fill
  refine W.walk (l := PySem.Challenge.rw_watchedways_k71_telling_refused) rfl rfl (fun w h Y => PySem.W.km_in_of Y) ?F
  case F =>
    intro w mg fa h Y KX G hmg
    have hT8 := PySem.W.km_tabs_of Y
    refine' W.all_mk KX G hmg ?u0 ?pg0 ?hd0 ?po0 ?sa0 ?wc0 ?wm0 ?wn0 ?wt0 ?na0_0 ?fx0_0 ?fx0_1 ?fx0_2 ?fx0_3 ?fx0_4 ?fx0_5 ?lT ?tI ?xn ?xo ?ue0 ?xl0 ?rb0 ?xa0 ?xb0 ?xc0 ?xd0 ?xe0 ?xf0 ?xg0 ?xh0 ?xi0 ?xj0 ?xm0 ?xp0 ?xs0 ?ue1 ?xl1 ?rb1 ?xa1 ?xb1 ?xc1 ?xd1 ?xe1 ?xf1 ?xg1 ?xh1 ?xi1 ?xj1 ?xm1 ?xp1 ?xs1 ?ue2 ?xl2 ?rb2 ?xa2 ?xb2 ?xc2 ?xd2 ?xe2 ?xf2 ?xg2 ?xh2 ?xi2 ?xj2 ?xm2 ?xp2 ?xs2 ?ue3 ?xl3 ?rb3 ?xa3 ?xb3 ?xc3 ?xd3 ?xe3 ?xf3 ?xg3 ?xh3 ?xi3 ?xj3 ?xm3 ?xp3 ?xs3 ?ue4 ?xl4 ?rb4 ?xa4 ?xb4 ?xc4 ?xd4 ?xe4 ?xf4 ?xg4 ?xh4 ?xi4 ?xj4 ?xm4 ?xp4 ?xs4 ?ue5 ?xl5 ?rb5 ?xa5 ?xb5 ?xc5 ?xd5 ?xe5 ?xf5 ?xg5 ?xh5 ?xi5 ?xj5 ?xm5 ?xp5 ?xs5 ?ue6 ?xl6 ?rb6 ?xa6 ?xb6 ?xc6 ?xd6 ?xe6 ?xf6 ?xg6 ?xh6 ?xi6 ?xj6 ?xm6 ?xp6 ?xs6 ?ue7 ?xl7 ?rb7 ?xa7 ?xb7 ?xc7 ?xd7 ?xe7 ?xf7 ?xg7 ?xh7 ?xi7 ?xj7 ?xm7 ?xp7 ?xs7 ?sp0 ?sp1 ?sp2 ?sp3 ?sp4 ?sp5 ?sp6 ?sp7 ?sp8 ?sp9 ?sp10 ?sp11 ?sp12 ?sp13 ?sp14 ?sp15 ?sp16 ?sp17 ?sp18 ?sp19 ?sp20 ?sp21 ?sp22 ?sp23 ?sp24 ?sp25 ?sp26 ?sp27 ?sp28 ?sp29 ?sp30 ?sp31 ?sp32 ?sp33 ?sp34 ?sp35 ?sp36 ?sp37 ?sp38 ?sp39 ?sp40 ?sp41 ?l1 ?c1 ?k1 ?a2 ?l2 ?c2 ?k2 ?a3 ?l3 ?c3 ?k3 ?a4 ?l4 ?c4 ?k4 ?a5 ?l5 ?c5 ?k5 ?a6 ?l6 ?c6 ?k6 ?a7 ?l7 ?c7 ?k7 ?a8 ?l8 ?c8 ?k8 ?a9 ?i9 ?mk0 ?kc0 ?l9 ?c9 ?k9 ?a10 ?l10 ?c10 ?k10 ?a11 ?l11 ?c11 ?k11 ?a12 ?l12 ?c12 ?k12 ?a13 ?l13 ?c13 ?k13 ?a14 ?l14 ?c14 ?k14 ?a15 ?l15 ?c15 ?k15 ?a16 ?l16 ?c16 ?k16 ?a17 ?l17 ?c17 ?k17 ?a18 ?l18 ?c18 ?k18 ?a19 ?l19 ?c19 ?k19 ?a20 ?l20 ?c20 ?k20 ?a21 ?l21 ?c21 ?k21 ?a22 ?l22 ?c22 ?k22 ?a23 ?l23 ?c23 ?k23 ?a24 ?l24 ?c24 ?k24 ?a25 ?l25 ?c25 ?k25 ?a26 ?l26 ?c26 ?k26 ?a27 ?l27 ?c27 ?k27 ?a28 ?l28 ?c28 ?k28 ?a29 ?l29 ?c29 ?k29 ?a30 ?l30 ?c30 ?k30 ?a31 ?l31 ?c31 ?k31 ?a32 ?l32 ?c32 ?k32 ?lc32 ?lp32 ?lh32 ?ln32 ?lt32 ?a33 ?l33 ?c33 ?k33 ?lc33 ?lp33 ?lh33 ?ln33 ?lt33 ?a34 ?l34 ?c34 ?k34 ?a35 ?l35 ?c35 ?k35 ?a36 ?l36 ?c36 ?k36 ?a37 ?l37 ?c37 ?k37 ?a38 ?l38 ?c38 ?k38 ?a39 ?l39 ?c39 ?k39 ?a40 ?l40 ?c40 ?k40 ?a41 ?l41 ?c41 ?k41 ?a42 ?l42 ?c42 ?k42 ?a43 ?l43 ?c43 ?k43 ?a44 ?l44 ?c44 ?k44 ?a45 ?l45 ?c45 ?k45 ?a46 ?l46 ?c46 ?k46 ?a47 ?l47 ?c47 ?k47 ?a48 ?l48 ?c48 ?k48 ?a49 ?l49 ?c49 ?k49 ?a50 ?l50 ?c50 ?k50 ?a51 ?l51 ?c51 ?k51 ?a52 ?l52 ?c52 ?k52 ?z0 ?z1 ?z2 ?z3 ?z4 ?z5 ?z6 ?z7 ?z8 ?z9 ?z10 ?z11 ?z12 ?z13 ?z14 ?z15 ?z16 ?z17 ?y0 ?y1 ?y2 ?y3 ?y4 ?y5 ?y6 ?y7 ?le32_33
    (case ue0 => k_is); (case xe0 => k_is); (case l1 => k_is); (case u0 => k_is); (case pg0 => k_is); (case hd0 => k_is); (case po0 => k_is); (case sa0 => k_is); (case wc0 => k_is); (case wm0 => k_is); (case wn0 => k_is); (case wt0 => k_is); (case na0_0 => k_is); (case fx0_0 => k_is); (case fx0_1 => k_is); (case fx0_2 => k_is); (case fx0_3 => k_is); (case fx0_4 => k_is); (case fx0_5 => k_is); (case lT => k_is); (case tI => k_is); (case xn => k_is); (case xo => k_is); (case xl0 => k_is); (case rb0 => rfl); (case xa0 => k_is); (case xb0 => k_is); (case xc0 => k_is); (case xd0 => k_is); (case xf0 => k_is); (case xg0 => k_is); (case xh0 => k_is); (case xi0 => k_is); (case xj0 => k_is); (case xm0 => k_is); (case xp0 => k_is); (case xs0 => k_is); (case ue1 => k_is); (case xl1 => k_is); (case rb1 => rfl); (case xa1 => k_is); (case xb1 => k_is); (case xc1 => k_is); (case xd1 => k_is); (case xe1 => k_is); (case xf1 => k_is); (case xg1 => k_is); (case xh1 => k_is); (case xi1 => k_is); (case xj1 => k_is); (case xm1 => k_is); (case xp1 => k_is); (case xs1 => k_is); (case ue2 => k_is); (case xl2 => k_is); (case rb2 => rfl); (case xa2 => k_is); (case xb2 => k_is); (case xc2 => k_is); (case xd2 => k_is); (case xe2 => k_is); (case xf2 => k_is); (case xg2 => k_is); (case xh2 => k_is); (case xi2 => k_is); (case xj2 => k_is); (case xm2 => k_is); (case xp2 => k_is); (case xs2 => k_is); (case ue3 => k_is); (case xl3 => k_is); (case rb3 => rfl); (case xa3 => k_is); (case xb3 => k_is); (case xc3 => k_is); (case xd3 => k_is); (case xe3 => k_is); (case xf3 => k_is); (case xg3 => k_is); (case xh3 => k_is); (case xi3 => k_is); (case xj3 => k_is); (case xm3 => k_is); (case xp3 => k_is); (case xs3 => k_is); (case ue4 => k_is); (case xl4 => k_is); (case rb4 => rfl); (case xa4 => k_is); (case xb4 => k_is); (case xc4 => k_is); (case xd4 => k_is); (case xe4 => k_is); (case xf4 => k_is); (case xg4 => k_is); (case xh4 => k_is); (case xi4 => k_is); (case xj4 => k_is); (case xm4 => k_is); (case xp4 => k_is); (case xs4 => k_is); (case ue5 => k_is); (case xl5 => k_is); (case rb5 => rfl); (case xa5 => k_is); (case xb5 => k_is); (case xc5 => k_is); (case xd5 => k_is); (case xe5 => k_is); (case xf5 => k_is); (case xg5 => k_is); (case xh5 => k_is); (case xi5 => k_is); (case xj5 => k_is); (case xm5 => k_is); (case xp5 => k_is); (case xs5 => k_is); (case ue6 => k_is); (case xl6 => k_is); (case rb6 => rfl); (case xa6 => k_is); (case xb6 => k_is); (case xc6 => k_is); (case xd6 => k_is); (case xe6 => k_is); (case xf6 => k_is); (case xg6 => k_is); (case xh6 => k_is); (case xi6 => k_is); (case xj6 => k_is); (case xm6 => k_is); (case xp6 => k_is); (case xs6 => k_is); (case ue7 => k_is); (case xl7 => k_is); (case rb7 => rfl); (case xa7 => k_is); (case xb7 => k_is); (case xc7 => k_is); (case xd7 => k_is); (case xe7 => k_is); (case xf7 => k_is); (case xg7 => k_is); (case xh7 => k_is); (case xi7 => k_is); (case xj7 => k_is); (case xm7 => k_is); (case xp7 => k_is); (case xs7 => k_is); (case sp0 => k_is); (case sp1 => k_is); (case sp2 => k_is); (case sp3 => k_is); (case sp4 => k_is); (case sp5 => k_is); (case sp6 => k_is); (case sp7 => k_is); (case sp8 => k_is); (case sp9 => k_is); (case sp10 => k_is); (case sp11 => k_is); (case sp12 => k_is); (case sp13 => k_is); (case sp14 => k_is); (case sp15 => k_is); (case sp16 => k_is); (case sp17 => k_is); (case sp18 => k_is); (case sp19 => k_is); (case sp20 => k_is); (case sp21 => k_is); (case sp22 => k_is); (case sp23 => k_is); (case sp24 => k_is); (case sp25 => k_is); (case sp26 => k_is); (case sp27 => k_is); (case sp28 => k_is); (case sp29 => k_is); (case sp30 => k_is); (case sp31 => k_is); (case sp32 => k_is); (case sp33 => k_is); (case sp34 => k_is); (case sp35 => k_is); (case sp36 => k_is); (case sp37 => k_is); (case sp38 => k_is); (case sp39 => k_is); (case sp40 => k_is); (case sp41 => k_is); (case c1 => k_is); (case k1 => k_is); (case a2 => k_is); (case l2 => k_is); (case c2 => k_is); (case k2 => k_is); (case a3 => k_is); (case l3 => k_is); (case c3 => k_is); (case k3 => k_is); (case a4 => k_is); (case l4 => k_is); (case c4 => k_is); (case k4 => k_is); (case a5 => k_is); (case l5 => k_is); (case c5 => k_is); (case k5 => k_is); (case a6 => k_is); (case l6 => k_is); (case c6 => k_is); (case k6 => k_is); (case a7 => k_is); (case l7 => k_is); (case c7 => k_is); (case k7 => k_is); (case a8 => k_is); (case l8 => k_is); (case c8 => k_is); (case k8 => k_is); (case a9 => k_is); (case i9 => k_is); (case mk0 => k_is); (case kc0 => k_is); (case l9 => k_is); (case c9 => k_is); (case k9 => k_is); (case a10 => k_is); (case l10 => k_is); (case c10 => k_is); (case k10 => k_is); (case a11 => k_is); (case l11 => k_is); (case c11 => k_is); (case k11 => k_is); (case a12 => k_is); (case l12 => k_is); (case c12 => k_is); (case k12 => k_is); (case a13 => k_is); (case l13 => k_is); (case c13 => k_is); (case k13 => k_is); (case a14 => k_is); (case l14 => k_is); (case c14 => k_is); (case k14 => k_is); (case a15 => k_is); (case l15 => k_is); (case c15 => k_is); (case k15 => k_is); (case a16 => k_is); (case l16 => k_is); (case c16 => k_is); (case k16 => k_is); (case a17 => k_is); (case l17 => k_is); (case c17 => k_is); (case k17 => k_is); (case a18 => k_is); (case l18 => k_is); (case c18 => k_is); (case k18 => k_is); (case a19 => k_is); (case l19 => k_is); (case c19 => k_is); (case k19 => k_is); (case a20 => k_is); (case l20 => k_is); (case c20 => k_is); (case k20 => k_is); (case a21 => k_is); (case l21 => k_is); (case c21 => k_is); (case k21 => k_is); (case a22 => k_is); (case l22 => k_is); (case c22 => k_is); (case k22 => k_is); (case a23 => k_is); (case l23 => k_is); (case c23 => k_is); (case k23 => k_is); (case a24 => k_is); (case l24 => k_is); (case c24 => k_is); (case k24 => k_is); (case a25 => k_is); (case l25 => k_is); (case c25 => k_is); (case k25 => k_is); (case a26 => k_is); (case l26 => k_is); (case c26 => k_is); (case k26 => k_is); (case a27 => k_is); (case l27 => k_is); (case c27 => k_is); (case k27 => k_is); (case a28 => k_is); (case l28 => k_is); (case c28 => k_is); (case k28 => k_is); (case a29 => k_is); (case l29 => k_is); (case c29 => k_is); (case k29 => k_is); (case a30 => k_is); (case l30 => k_is); (case c30 => k_is); (case k30 => k_is); (case a31 => k_is); (case l31 => k_is); (case c31 => k_is); (case k31 => k_is); (case a32 => k_is); (case l32 => k_is); (case c32 => k_is); (case k32 => k_is); (case lc32 => k_is); (case lp32 => rfl); (case lh32 => kernel_rfl); (case ln32 => kernel_rfl); (case lt32 => exact hT8 _ (by decide)); (case a33 => k_is); (case l33 => k_is); (case c33 => k_is); (case k33 => k_is); (case lc33 => k_is); (case lp33 => rfl); (case lh33 => kernel_rfl); (case ln33 => kernel_rfl); (case lt33 => exact hT8 _ (by decide)); (case a34 => k_is); (case l34 => k_is); (case c34 => k_is); (case k34 => k_is); (case a35 => k_is); (case l35 => k_is); (case c35 => k_is); (case k35 => k_is); (case a36 => k_is); (case l36 => k_is); (case c36 => k_is); (case k36 => k_is); (case a37 => k_is); (case l37 => k_is); (case c37 => k_is); (case k37 => k_is); (case a38 => k_is); (case l38 => k_is); (case c38 => k_is); (case k38 => k_is); (case a39 => k_is); (case l39 => k_is); (case c39 => k_is); (case k39 => k_is); (case a40 => k_is); (case l40 => k_is); (case c40 => k_is); (case k40 => k_is); (case a41 => k_is); (case l41 => k_is); (case c41 => k_is); (case k41 => k_is); (case a42 => k_is); (case l42 => k_is); (case c42 => k_is); (case k42 => k_is); (case a43 => k_is); (case l43 => k_is); (case c43 => k_is); (case k43 => k_is); (case a44 => k_is); (case l44 => k_is); (case c44 => k_is); (case k44 => k_is); (case a45 => k_is); (case l45 => k_is); (case c45 => k_is); (case k45 => k_is); (case a46 => k_is); (case l46 => k_is); (case c46 => k_is); (case k46 => k_is); (case a47 => k_is); (case l47 => k_is); (case c47 => k_is); (case k47 => k_is); (case a48 => k_is); (case l48 => k_is); (case c48 => k_is); (case k48 => k_is); (case a49 => k_is); (case l49 => k_is); (case c49 => k_is); (case k49 => k_is); (case a50 => k_is); (case l50 => k_is); (case c50 => k_is); (case k50 => k_is); (case a51 => k_is); (case l51 => k_is); (case c51 => k_is); (case k51 => k_is); (case a52 => k_is); (case l52 => k_is); (case c52 => k_is); (case k52 => k_is); (case z0 => k_is); (case z1 => k_is); (case z2 => k_is); (case z3 => k_is); (case z4 => k_is); (case z5 => k_is); (case z6 => k_is); (case z7 => k_is); (case z8 => k_is); (case z9 => k_is); (case z10 => k_is); (case z11 => k_is); (case z12 => k_is); (case z13 => k_is); (case z14 => k_is); (case z15 => k_is); (case z16 => k_is); (case z17 => k_is); (case y0 => k_is); (case y1 => k_is); (case y2 => k_is); (case y3 => k_is); (case y4 => k_is); (case y5 => k_is); (case y6 => k_is); (case y7 => k_is); (case le32_33 => decide)
