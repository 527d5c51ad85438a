import PyProof.Rows.All
import Wide.All
import OpenK.AllK
import Wide.FinOn
import HandS.ForMost
import HandS.SortInts
import HandS.Style
import HandS.IsInst
import HandS.Flow
import HandS.Conv
import HandS.Codes
import PyProof.Draws
import PyProof.EnumMake
import HandS.Walk
import HandS.Strs
import HandS.More
import HandS.Text
import HandS.Small
import HandS.SortKw
import KE.SortKeyed
import HandS.DictComp
import HandS.Zip
import HandS.Finally
import HandS.Exc
import HandS.ExcOwn
import HandS.ExcInit
import HandS.ExcIs
import HandS.TryOnly
import HandS.TryMany
import HandS.WordsExc
import HandS.Defaults
import HandS.CallSlots
import HandS.DeepEq
import HandS.OwnEq
import HandS.Wide
import PyProof.FactsAll.int_1
import PyProof.FactsAll.int_3
import PyProof.FactsAll.int_4
import PyProof.FactsAll.int_5
import KE.OsArith
import HandS.HeadEnd
import HandS.Head0
import HandS.Head1
import HandS.Head2
import HandS.HeadHook1
import HandS.HeadHook2
import HandS.HeadHook3
import HandS.HeadHook4
import HandS.DictTup
import HandS.TupLen
import PySem.Challenge.RW_watchedways_k37_roads_asked
set_option Elab.async false
set_option linter.all false
set_option maxRecDepth 100000
set_option maxHeartbeats 4000000
/-! Readings by their heads: one lemma a combinator, so that a reading is walked by its own shape. -/
namespace Rd
open PySem PySem.Spec PyProof.Rows L2
variable {X : Cx} {D : Ends} {σ : L2.St} {H : Hp} {K : PySem.W.Frag}
/-- a new object is laid -/
def NewQ (o : HO) (Q : VK) (H : Hp) : Prop := ∀ p, H p = none → Q (.ref p) (upd H p o)
theorem new {o : HO} {Q : VK} (h : ∀ (p : Addr) (G : Hp), H p = none → G p = some o → Same H G → Q (.ref p) G) : NewQ o Q H :=
  fun p hp => h p _ hp upd_same fun b u e => by rw [upd_ne (ne_of_none e hp)]; exact e
theorem seq {t u : TS} (h : t { D with nx := u D } σ H) : tSeq t u D σ H := h
theorem cut {t u : TS} (Mid : L2.St → Hp → Prop) (h : t { D with nx := Mid } σ H) (h2 : ∀ σ' H', Mid σ' H' → u D σ' H') : C8.tCut t u D σ H := ⟨Mid, h, h2⟩
theorem nxt (h : D.nx σ H) : tNext D σ H := h
theorem asg {te : TE} {g : TG} (h : te σ H fun x H1 => g x σ H1 D.nx) : tAsg te g D σ H := h
theorem name {i : Nat} {v : V} {Q : L2.St → Hp → Prop} (h : Q (σ.set i (some v)) H) : gName i v σ H Q := h
theorem ret {te : TE} (h : te σ H D.rt) : tRet te D σ H := h
theorem retN (h : D.rt .non H) : tRetN D σ H := h
theorem drop {te : TE} (h : te σ H fun _ H1 => D.nx σ H1) : tDrop te D σ H := h
theorem ifS {c : TT} {t u : TS} (h : c σ H fun b H1 => if b = true then t D σ H1 else u D σ H1) : tIfS c t u D σ H := h
theorem brk (h : D.bk σ H) : tBreak D σ H := h
theorem cont (h : D.ct σ H) : tCont D σ H := h
theorem var {i : Nat} {v : V} {Q : VK} (e : σ[i]? = some (some v)) (h : Q v H) : tVar i σ H Q := ⟨v, e, h⟩
theorem con {v : V} {Q : VK} (h : Q v H) : tC v σ H Q := h
theorem op {r : R2} {ta tb : TE} {Q : VK} (h : ta σ H fun x H1 => tb σ H1 fun y H2 => r x y H2 Q) : tOp r ta tb σ H Q := h
theorem un {r : V → Hp → VK → Prop} {ta : TE} {Q : VK} (h : ta σ H fun x H1 => r x H1 Q) : tUn r ta σ H Q := h
theorem test {t : TE} {Q : Bool → Hp → Prop} (h : t σ H fun x H' => ∃ k, x = .bl k ∧ Q k H') : tTest t σ H Q := h
theorem tstB {t : TE} {Q : Bool → Hp → Prop} (h : t σ H fun x H' => ∃ k, x = .bl k ∧ Q k H') : tB t σ H Q := h
theorem bl {k : Bool} {Q : Bool → Hp → Prop} (h : Q k H) : ∃ k', V.bl k = .bl k' ∧ Q k' H := ⟨k, rfl, h⟩
theorem and {t u : TT} {Q : Bool → Hp → Prop} (h : t σ H fun c H1 => if c = true then u σ H1 Q else Q false H1) : tAnd t u σ H Q := h
theorem or {t u : TT} {Q : Bool → Hp → Prop} (h : t σ H fun c H1 => if c = true then Q true H1 else u σ H1 Q) : tOr t u σ H Q := h
theorem not {t : TT} {Q : Bool → Hp → Prop} (h : t σ H fun c H1 => Q (!c) H1) : tNot t σ H Q := h
theorem andV {ta tb : TE} {Q : VK} (h : ta σ H fun x H1 => ∃ c, x = .bl c ∧ if c = true then tb σ H1 Q else Q (.bl false) H1) : tAndV ta tb σ H Q := h
theorem orV {ta tb : TE} {Q : VK} (h : ta σ H fun x H1 => ∃ c, x = .bl c ∧ if c = true then Q (.bl true) H1 else tb σ H1 Q) : tOrV ta tb σ H Q := h
theorem notV {ta : TE} {Q : VK} (h : ta σ H fun x H1 => ∃ c, x = .bl c ∧ Q (.bl (!c)) H1) : tNotV ta σ H Q := h
theorem ifE {t : TT} {ta tb : TE} {Q : VK} (h : t σ H fun c H1 => if c = true then ta σ H1 Q else tb σ H1 Q) : tIf t ta tb σ H Q := h
theorem nil {Q : List V → Hp → Prop} (h : Q [] H) : tNil σ H Q := h
theorem cons {ta : TE} {tr : TA} {Q : List V → Hp → Prop} (h : ta σ H fun x H1 => tr σ H1 fun xs H2 => Q (x :: xs) H2) : tCons ta tr σ H Q := h
theorem tup {t : TA} {Q : VK} (h : t σ H fun xs H1 => xs.length ≤ sizeLine ∧ NewQ (.tup xs) Q H1) : tTup t σ H Q := h
theorem lst {t : TA} {Q : VK} (h : t σ H fun xs H1 => xs.length ≤ sizeLine ∧ NewQ (.lst xs) Q H1) : tLst t σ H Q := h
theorem cb {r : List V → Hp → VK → Prop} {t : TA} {Q : VK} (h : t σ H fun vs H1 => r vs H1 Q) : tCB r t σ H Q := h
theorem call {sp : Sp} {dvs : List V} {E : XK} {t : TA} {Q : VK} (h : t σ H fun vs H1 => sp (vs ++ dvs) H1 Q E) : tCall sp dvs E t σ H Q := h
theorem chain {r r' : R2} {ta tb tc : TE} {Q : VK} (h : ta σ H fun x H1 => tb σ H1 fun y H2 => r x y H2 fun z H3 => ∃ k, z = .bl k ∧ (if k = true then tc σ H3 fun w' H4 => r' y w' H4 Q else Q (.bl false) H3)) : tChain r r' ta tb tc σ H Q := h
theorem blE {k : Bool} {P : Bool → Prop} (h : P k) : ∃ k', V.bl k = .bl k' ∧ P k' := ⟨k, rfl, h⟩
theorem i0 {g : Int → Int → V} {i j : Int} {Q : VK} (h : Q (g i j) H) : rI0 g (.int i) (.int j) H Q := ⟨i, j, rfl, rfl, h⟩
theorem iC {C : Int → Int → Prop} {g : Int → Int → V} {i j : Int} {Q : VK} (c : C i j) (h : Q (g i j) H) : rI C g (.int i) (.int j) H Q := ⟨i, j, rfl, rfl, c, h⟩
theorem u1 {g : Int → V} {i : Int} {Q : VK} (h : Q (g i) H) : rU g (.int i) H Q := ⟨i, rfl, h⟩
theorem eqI {i j : Int} {Q : VK} (h : Q (.bl (decide (i = j))) H) : rEq (.int i) (.int j) H Q := ⟨rfl, by rw [show decide (V.int i = V.int j) = decide (i = j) by simp]; exact h⟩
theorem neI {i j : Int} {Q : VK} (h : Q (.bl (!decide (i = j))) H) : rNe (.int i) (.int j) H Q := ⟨rfl, by rw [show decide (V.int i = V.int j) = decide (i = j) by simp]; exact h⟩
theorem eqB {i j : Bool} {Q : VK} (h : Q (.bl (i == j)) H) : rEq (.bl i) (.bl j) H Q := ⟨rfl, by rw [dec_bl]; exact h⟩
theorem neB {i j : Bool} {Q : VK} (h : Q (.bl (i != j)) H) : rNe (.bl i) (.bl j) H Q := ⟨rfl, by rw [dec_bl]; exact h⟩
theorem eqS {i j : Str} {Q : VK} (h : Q (.bl (decide (i = j))) H) : rEq (.str i) (.str j) H Q := ⟨rfl, by rw [show decide (V.str i = V.str j) = decide (i = j) by simp]; exact h⟩
theorem neS {i j : Str} {Q : VK} (h : Q (.bl (!decide (i = j))) H) : rNe (.str i) (.str j) H Q := ⟨rfl, by rw [show decide (V.str i = V.str j) = decide (i = j) by simp]; exact h⟩
theorem iteb {c A B : Prop} [Decidable c] (h : if c then A else B) : if decide c = true then A else B := by
  by_cases q : c
  · rw [if_pos q] at h; rw [if_pos (decide_eq_true q)]; exact h
  · rw [if_neg q] at h; rw [if_neg (by simpa using q)]; exact h
theorem iten {c A B : Prop} [Decidable c] (h : if c then B else A) : if (!decide c) = true then A else B := by
  by_cases q : c
  · rw [if_pos q] at h; rw [if_neg (by simpa using q)]; exact h
  · rw [if_neg q] at h; rw [if_pos (by simpa using q)]; exact h
theorem itbn {b : Bool} {A B : Prop} (h : if b = true then B else A) : if (!b) = true then A else B := by
  cases b with
  | true => rw [if_neg (by decide)]; rw [if_pos rfl] at h; exact h
  | false => rw [if_pos (by rfl : (!false) = true)]; rw [if_neg (by decide)] at h; exact h
theorem a1 {a : Int} {P : Int → Prop} (h : P a) : ∃ i, [V.int a] = [V.int i] ∧ P i := ⟨a, rfl, h⟩
theorem a2 {a b : Int} {P : Int → Int → Prop} (h : P a b) : ∃ i j, [V.int a, V.int b] = [V.int i, V.int j] ∧ P i j := ⟨a, b, rfl, h⟩
theorem v2 {a b : V} {P : V → V → Prop} (h : P a b) : ∃ i j, [a, b] = [i, j] ∧ P i j := ⟨a, b, rfl, h⟩
theorem int1 {a : Int} {P : Int → Prop} {R : Prop} (h : P a) : (∃ i, [V.int a] = [V.int i] ∧ P i) ∨ R := .inl ⟨a, rfl, h⟩
theorem par {i j : Nat} {ta : TA} (h : ta σ H fun vs H1 => ∃ v w, vs = [v, w] ∧ D.nx ((σ.set i (some v)).set j (some w)) H1) : tPar i j ta D σ H := h
theorem sub {to ti : TE} {t : TSet} {v : V} {Q : L2.St → Hp → Prop} (h : to σ H fun o H1 => ti σ H1 fun i H2 => t o i v H2 fun H3 => Q σ H3) : gSub to ti t v σ H Q := h
theorem forS {wi : TI} {g : TG} {tb : TS} (h : wi σ H fun J H1 => ∃ W : Nat → Nat → L2.St → Hp → Prop, (∃ m, W 0 m σ H1) ∧ ∀ i m σ H, W i m σ H →
  (J.stop i H ∧ D.nx σ H) ∨ (J.go i H ∧ ∃ N : L2.St → Hp → Prop, (∀ σ' H', N σ' H' → ∃ m', m' < m ∧ W (i + 1) m' σ' H') ∧ ∀ x H', J.yld i H x H' → g x σ H' fun σ2 H2 => tb { D with nx := N, ct := N, bk := D.nx } σ2 H2)) : tFor wi g tb D σ H := h
theorem iter {tl : TE} {R : It → Hp → Prop} (h : tl σ H fun x H1 => ∃ a, x = .ref a ∧ (∃ xs, SqL K H1 a xs) ∧ R (Itl K a) H1) : iList K tl σ H R := h
theorem iterT {tl : TE} {R : It → Hp → Prop} (h : tl σ H fun x H1 => ∃ a, x = .ref a ∧ (∃ xs, SqT K H1 a xs) ∧ R (Itt K a) H1) : iTup K tl σ H R := h
theorem rng1 {ta : TA} {R : It → Hp → Prop} (h : ta σ H fun vs H1 => ∃ j : Int, vs = [.int j] ∧ -(2 ^ 62) ≤ j ∧ j < 2 ^ 62 ∧ R (Itr 0 j.toNat) H1) : iRng1 ta σ H R := h
theorem refE {a : Addr} {P : Addr → Prop} (h : P a) : ∃ b, V.ref a = .ref b ∧ P b := ⟨a, rfl, h⟩
theorem aug {i : Nat} {te : TE} {ti : TIp} {x : V} (e : σ[i]? = some (some x)) (h : te σ H fun y H1 => ti x y H1 fun z H2 => D.nx (σ.set i (some z)) H2) : tAug i te ti D σ H := ⟨x, e, h⟩
theorem ipi {f : Int → Int → Int} {i j : Int} {Q : VK} (h : Q (.int (f i j)) H) : ipI f (.int i) (.int j) H Q := ⟨i, j, rfl, rfl, h⟩
theorem whl {c : TT} {tb : TS} (W : Nat → L2.St → Hp → Prop) (h0 : ∃ m, W m σ H) (hs : ∀ m σ H, W m σ H → c σ H fun b H1 => if b = true then ∃ N : L2.St → Hp → Prop, (∀ σ' H', N σ' H' → ∃ m', m' < m ∧ W m' σ' H') ∧ tb { D with nx := N, ct := N, bk := D.nx } σ H1 else D.nx σ H1) : tWhile c tb D σ H := ⟨W, h0, hs⟩
theorem whN {m : Nat} {W : Nat → L2.St → Hp → Prop} {P : (L2.St → Hp → Prop) → Prop} (h : P (fun σ' H' => ∃ m', m' < m ∧ W m' σ' H')) : ∃ N, (∀ σ' H', N σ' H' → ∃ m', m' < m ∧ W m' σ' H') ∧ P N := ⟨_, fun _ _ h => h, h⟩
/-- an item of a list at a place -/
theorem ixL {p : Addr} {xs : List V} {i : Int} {v : V} {Q : VK} (hp : SqL K H p xs) (e : atI xs i = some v) (h : Q v H) : rIxL K (.ref p) (.int i) H Q := ⟨p, xs, i, v, rfl, rfl, hp, e, h⟩
theorem ixT {p : Addr} {xs : List V} {i : Int} {v : V} {Q : VK} (hp : SqT K H p xs) (e : atI xs i = some v) (h : Q v H) : rIxT K (.ref p) (.int i) H Q := ⟨p, xs, i, v, rfl, rfl, hp, e, h⟩
theorem setL {p : Addr} {xs : List V} {k : Int} {j : Nat} {v : V} {Q : Hp → Prop} (hp : H p = some (.lst xs)) (e : ixN xs.length k = some j) (h : Q (upd H p (.lst (xs.set j v)))) : rSetL (.ref p) (.int k) v H Q := ⟨p, xs, k, j, rfl, rfl, hp, e, h⟩
/-- a store into a list: behind it a heap G of which this is known -/
theorem setG {p : Addr} {xs ys : List V} {k : Int} {j : Nat} {v : V} {Q : Hp → Prop} (hp : H p = some (.lst xs)) (e : ixN xs.length k = some j) (hy : xs.set j v = ys) (h : ∀ G : Hp, G p = some (.lst ys) → (∀ b, b ≠ p → G b = H b) → Q G) : rSetL (.ref p) (.int k) v H Q :=
  ⟨p, xs, k, j, rfl, rfl, hp, e, hy ▸ h _ upd_same fun b hb => upd_ne hb⟩
/-! ### calls of built-ins and methods, by name -/
def nLen (K : PySem.W.Frag) : List V → Hp → VK → Prop := fun xs H Q => ∃ p ys, xs = [.ref p] ∧ (SqL K H p ys ∨ SqT K H p ys) ∧ Q (.int ys.length) H
theorem c_len : CallR X (.builtin "len") (nLen X.K) := call_len_seq
theorem len {p : Addr} {ys : List V} {Q : VK} (hp : SqL K H p ys ∨ SqT K H p ys) (h : Q (.int ys.length) H) : nLen K [.ref p] H Q := ⟨p, ys, rfl, hp, h⟩
def nLenS : List V → Hp → VK → Prop := fun xs H Q => ∃ z : Str, xs = [.str z] ∧ z.length ≤ sizeLine ∧ Q (.int z.length) H
theorem c_lenS : CallR X (.builtin "len") nLenS := call_len_str
theorem lenStr {z : Str} {Q : VK} (hz : z.length ≤ sizeLine) (h : Q (.int z.length) H) : nLenS [.str z] H Q := ⟨z, rfl, hz, h⟩
def nListOf (K : PySem.W.Frag) : List V → Hp → VK → Prop := fun xs H Q => ∃ p ys, xs = [.ref p] ∧ (SqL K H p ys ∨ SqT K H p ys) ∧ NewQ (.lst ys) Q H
theorem c_listOf : CallR X (.type "list") (nListOf X.K) := call_list_of
theorem listOf {p : Addr} {ys : List V} {Q : VK} (hp : SqL K H p ys ∨ SqT K H p ys) (h : NewQ (.lst ys) Q H) : nListOf K [.ref p] H Q := ⟨p, ys, rfl, hp, h⟩
def nTupOf (K : PySem.W.Frag) : List V → Hp → VK → Prop := fun xs H Q => ∃ p ys, xs = [.ref p] ∧ ((SqL K H p ys ∧ NewQ (.tup ys) Q H) ∨ (SqT K H p ys ∧ Q (.ref p) H))
theorem c_tupOf : CallR X (.type "tuple") (nTupOf X.K) := call_tuple_of
theorem tupOf {p : Addr} {ys : List V} {Q : VK} (hp : SqL K H p ys) (h : NewQ (.tup ys) Q H) : nTupOf K [.ref p] H Q := ⟨p, ys, rfl, .inl ⟨hp, h⟩⟩
def nInt : List V → Hp → VK → Prop := fun xs H Q => (∃ i, xs = [.int i] ∧ Q (.int i) H) ∨ ∃ k, xs = [.bl k] ∧ Q (.int (if k then 1 else 0)) H
theorem c_int : CallR X (.type "int") nInt := call_int1
theorem int {i : Int} {Q : VK} (h : Q (.int i) H) : nInt [.int i] H Q := .inl ⟨i, rfl, h⟩
theorem intB {k : Bool} {Q : VK} (h : Q (.int (if k then 1 else 0)) H) : nInt [.bl k] H Q := .inr ⟨k, rfl, h⟩
def nAbs : List V → Hp → VK → Prop := fun xs H Q => ∃ i, xs = [.int i] ∧ Q (.int (if i < 0 then -i else i)) H
theorem c_abs : CallR X (.builtin "abs") nAbs := call_abs
theorem abs {i : Int} {Q : VK} (h : Q (.int (i.natAbs : Int)) H) : nAbs [.int i] H Q := ⟨i, rfl, by rw [show (if i < 0 then -i else i) = (i.natAbs : Int) by split <;> omega]; exact h⟩
def nMax2 : List V → Hp → VK → Prop := fun xs H Q => ∃ i j, xs = [.int i, .int j] ∧ Q (.int (if j > i then j else i)) H
theorem c_max2 (hc : X.calm = true) : CallR X (.builtin "max") nMax2 := call_max2 hc
theorem max2 {i j : Int} {Q : VK} (h : Q (.int (max i j)) H) : nMax2 [.int i, .int j] H Q := ⟨i, j, rfl, by rw [show (if j > i then j else i) = max i j by rw [Int.max_def]; split <;> split <;> omega]; exact h⟩
def nMin2 : List V → Hp → VK → Prop := fun xs H Q => ∃ i j, xs = [.int i, .int j] ∧ Q (.int (if j < i then j else i)) H
theorem c_min2 (hc : X.calm = true) : CallR X (.builtin "min") nMin2 := call_min2 hc
theorem min2 {i j : Int} {Q : VK} (h : Q (.int (min i j)) H) : nMin2 [.int i, .int j] H Q := ⟨i, j, rfl, by rw [show (if j < i then j else i) = min i j by rw [Int.min_def]; split <;> split <;> omega]; exact h⟩
theorem bm {T : String} {r : V → List V → Hp → VK → Prop} {to : TE} {t : TA} {Q : VK} (h : to σ H fun x H1 => tyV K T x H1 ∧ t σ H1 fun xs H2 => r x xs H2 Q) : tBM K T r to t σ H Q := h
theorem bm0 {T : String} {r : V → List V → Hp → VK → Prop} {to : TE} {Q : VK} (h : to σ H fun x H1 => tyV K T x H1 ∧ r x [] H1 Q) : tBM0 K T r to σ H Q := h
theorem tyL {a : Addr} {xs : List V} {R : Prop} (h : SqL K H a xs) (r : R) : tyV K "list" (.ref a) H ∧ R := ⟨.inl ⟨rfl, _, h⟩, r⟩
theorem app {l : Addr} {xs : List V} {y : V} {Q : VK} (hp : H l = some (.lst xs)) (hz : xs.length < sizeLine) (h : ∀ G : Hp, G l = some (.lst (xs ++ [y])) → (∀ b, b ≠ l → G b = H b) → Q .non G) : rAppend (.ref l) [y] H Q :=
  ⟨l, xs, y, rfl, rfl, hp, hz, h _ upd_same fun b hb => upd_ne hb⟩
theorem popAt {l : Addr} {xs : List V} {i : Int} {y : V} {Q : VK} (hp : H l = some (.lst xs)) (h0 : 0 ≤ i) (h1 : i < xs.length) (hz : xs.length < 2 ^ 63) (hy : xs[i.toNat]? = some y) (h : ∀ G : Hp, G l = some (.lst (xs.eraseIdx i.toNat)) → (∀ b, b ≠ l → G b = H b) → Q y G) : rPopAt (.ref l) [.int i] H Q :=
  ⟨l, xs, i, i.toNat, y, rfl, rfl, hp, by omega, by omega, by unfold seqIndex?; rw [if_pos (by simp; omega)] <;> simp <;> omega, hy, h _ upd_same fun b hb => upd_ne hb⟩
theorem sl {r : V → Option Int → Option Int → Hp → VK → Prop} {te : TE} {tl th : TO} {Q : VK} (h : te σ H fun x H1 => tl σ H1 fun l H2 => th σ H2 fun u H3 => r x l u H3 Q) : tSl r te tl th σ H Q := h
theorem slL {a : Addr} {xs : List V} {lo hi : Option Int} {Q : VK} (hp : SqL K H a xs) (h : NewQ (.lst (cutV xs lo hi)) Q H) : rSlL K (.ref a) lo hi H Q := ⟨a, xs, rfl, hp, h⟩
theorem slS {z : Str} {lo hi : Option Int} {Q : VK} (hz : z.length ≤ sizeLine) (h : Q (.str (cutS z lo hi)) H) : rSlS (.str z) lo hi H Q := ⟨z, rfl, hz, h⟩
theorem cat {l b : Addr} {xs zs : List V} {Q : VK} (h1 : H l = some (.lst xs)) (h2 : H b = some (.lst zs)) (hz : xs.length + zs.length ≤ sizeLine) (h : NewQ (.lst (xs ++ zs)) Q H) : rCat (.ref l) (.ref b) H Q := ⟨l, b, xs, zs, rfl, rfl, h1, h2, hz, h⟩
theorem rep {l : Addr} {xs : List V} {k : Int} {Q : VK} (h1 : H l = some (.lst xs)) (h0 : -(2 ^ 63) ≤ k) (hk : k < 2 ^ 63) (hz : xs.length * k.toNat ≤ sizeLine) (h : NewQ (.lst (List.replicate k.toNat xs).flatten) Q H) : rRep (.ref l) (.int k) H Q := ⟨l, k, xs, rfl, rfl, h1, h0, hk, hz, h⟩
theorem revL {te : TE} {Q : VK} (h : te σ H fun x H1 => ∃ a xs, x = .ref a ∧ SqL K H1 a xs ∧ NewQ (.lst xs.reverse) Q H1) : tRevL K te σ H Q := h
theorem refX {a : Addr} {xs : List V} {P : List V → Prop} (h : SqL K H a xs) (q : P xs) : ∃ b ys, V.ref a = .ref b ∧ SqL K H b ys ∧ P ys := ⟨a, xs, rfl, h, q⟩
theorem sum {a : Addr} {ns : List Int} {Q : VK} (hp : SqL K H a (ns.map V.int)) (h : Q (.int ns.sum) H) : rSum K [.ref a] H Q := ⟨a, ns, rfl, hp, h⟩
theorem all {a : Addr} {bs : List Bool} {Q : VK} (hp : SqL K H a (bs.map V.bl)) (h : Q (.bl (bs.all id)) H) : rAll K [.ref a] H Q := ⟨a, bs, rfl, hp, h⟩
theorem any {a : Addr} {bs : List Bool} {Q : VK} (hp : SqL K H a (bs.map V.bl)) (h : Q (.bl (bs.any id)) H) : rAny K [.ref a] H Q := ⟨a, bs, rfl, hp, h⟩
theorem sortedI {a : Addr} {ns : List Int} {Q : VK} (hp : SqL K H a (ns.map V.int)) (h : ∀ (ms : List Int) (p : Addr) (G : Hp), ms.Perm ns → ms.Pairwise (· ≤ ·) → G p = some (.lst (ms.map V.int)) → Same H G → H p = none → Q (.ref p) G) : rSortedI K [.ref a] H Q :=
  ⟨a, ns, rfl, hp, fun ms p h1 h2 h3 => h ms p _ h1 h2 upd_same (fun b u e => by rw [upd_ne (ne_of_none e h3)]; exact e) h3⟩
theorem inS {neg : Bool} {x : V} {p : Addr} {xs : List V} {Q : VK} (hp : SqL K H p xs ∨ SqT K H p xs) (h1 : flatV x = true) (h2 : xs.all flatV = true) (h : Q (.bl (if neg then !inV x xs else inV x xs)) H) : rIn K neg x (.ref p) H Q := ⟨p, xs, rfl, hp, h1, h2, h⟩
theorem part {te : TE} {Q : Option Int → Hp → Prop} (h : te σ H fun x H1 => ∃ i, x = .int i ∧ Q (some i) H1) : tPart te σ H Q := h
theorem noPart {Q : Option Int → Hp → Prop} (h : Q none H) : tNoPart σ H Q := h
theorem poS {te : TE} {Q : Option Int → Hp → Prop} {i : Int} (h : te σ H fun x H1 => ∃ i, x = .int i ∧ Q (some i) H1) : te σ H fun x H1 => ∃ i, x = .int i ∧ Q (some i) H1 := h
theorem tupT {a : Addr} {xs : List V} {n : Nat} {t : TGs} {Q : L2.St → Hp → Prop} (hp : SqT K H a xs) (hn : xs.length = n) (h : t xs σ H Q) : gTup K n t (.ref a) σ H Q := ⟨a, xs, rfl, hp, hn, h⟩
theorem gcons {t : TG} {u : TGs} {v : V} {r : List V} {Q : L2.St → Hp → Prop} (h : t v σ H fun σ' H' => u r σ' H' Q) : gCons t u (v :: r) σ H Q := ⟨v, r, rfl, h⟩
theorem gnil {Q : L2.St → Hp → Prop} (h : Q σ H) : gNil [] σ H Q := ⟨rfl, h⟩
theorem last2 {ms : List Int} (h : 2 ≤ ms.length) : ∃ s b a, ms = s ++ [b, a] := by
  rcases List.eq_nil_or_concat ms with e | ⟨t, a, e⟩
  · subst e; simp at h
  · rcases List.eq_nil_or_concat t with e2 | ⟨s, b, e2⟩
    · subst e2; subst e; simp at h
    · exact ⟨s, b, a, by rw [e, e2]; simp⟩
theorem cut_last2 (s : List Int) (b a : Int) : cutV ((s ++ [b, a]).map V.int) (some (-2)) none = [b, a].map V.int := by
  have e : HT.sIx ((s ++ [b, a]).map V.int).length 0 (some (-2)) = (s.map V.int).length := by
    unfold HT.sIx
    simp
    omega
  have e2 : HT.sIx ((s ++ [b, a]).map V.int).length ((s ++ [b, a]).map V.int).length none = ((s ++ [b, a]).map V.int).length := rfl
  unfold cutV
  rw [e, e2, List.map_append, List.drop_left, List.length_append]
  exact List.take_of_length_le (by simp)
theorem rep_map (k : Nat) (b : Bool) : (List.replicate k [V.bl b]).flatten = (List.replicate k b).map V.bl := by
  induction k with
  | zero => rfl
  | succ k ih => rw [List.replicate_succ, List.flatten_cons, ih, List.replicate_succ]; rfl
theorem map_set {α β : Type} (f : α → β) (l : List α) (i : Nat) (x : α) : (l.map f).set i (f x) = (l.set i x).map f := by rw [List.map_set]
theorem enx {a b c : L2.St → Hp → Prop} {r : VK} (h : a σ H) : (Ends.mk a r b c).nx σ H := h
theorem ebk {a b c : L2.St → Hp → Prop} {r : VK} (h : b σ H) : (Ends.mk a r b c).bk σ H := h
theorem ect {a b c : L2.St → Hp → Prop} {r : VK} (h : c σ H) : (Ends.mk a r b c).ct σ H := h
theorem ert {a b c : L2.St → Hp → Prop} {r : VK} {v : V} (h : r v H) : (Ends.mk a r b c).rt v H := h
theorem intE {i : Int} {P : Int → Prop} (h : P i) : ∃ j, V.int i = .int j ∧ P j := ⟨i, rfl, h⟩
theorem atI_of {α : Type} {xs : List α} {i : Int} {v : α} (h0 : 0 ≤ i) (e : xs[i.toNat]? = some v) : atI xs i = some v := by
  have h := atI_nat e
  rw [show ((i.toNat : Nat) : Int) = i by omega] at h
  exact h
theorem ixN_of {n : Nat} {i : Int} (h0 : 0 ≤ i) (h1 : i < n) : ixN n i = some i.toNat := by
  unfold ixN
  rw [if_pos h0, if_pos h1]
theorem map_int {ns : List Int} {i : Nat} (h : i < ns.length) : (ns.map V.int)[i]? = some (.int ns[i]) := by simp [h]
theorem map_get {ns : List Int} {i : Nat} {x : V} (h : (ns.map V.int)[i]? = some x) : ∃ n, ns[i]? = some n ∧ x = .int n := by
  rw [List.getElem?_map] at h
  cases e : ns[i]? with
  | none => rw [e] at h; cases h
  | some z => rw [e] at h; exact ⟨z, rfl, (Option.some.inj h).symm⟩
theorem take_snoc {α : Type} {l : List α} {i : Nat} {x : α} (h : l[i]? = some x) : l.take (i + 1) = l.take i ++ [x] := by
  rw [List.take_succ, h]
  rfl
theorem upd_at {a : Addr} {o : HO} {b : Addr} (h : b = a) : upd H a o b = some o := by subst h; exact upd_same
/-- all but what stands at a is kept -/
def But (a : Addr) (H H' : Hp) : Prop := ∀ b o, b ≠ a → H b = some o → H' b = some o
theorem But.refl (a : Addr) (H : Hp) : But a H H := fun _ _ _ e => e
theorem But.trans {a : Addr} {H H1 H2 : Hp} (x : But a H H1) (y : But a H1 H2) : But a H H2 := fun b o n e => y b o n (x b o n e)
theorem But.same {a : Addr} {H H1 H2 : Hp} (x : But a H H1) (y : Same H1 H2) : But a H H2 := fun b o n e => y b o (x b o n e)
theorem But.of {a : Addr} {H H1 : Hp} (y : Same H H1) : But a H H1 := fun b o _ e => y b o e
theorem But.free {a : Addr} {H H1 : Hp} (x : But a H H1) {l : Addr} (n : l ≠ a) (h : H1 l = none) : H l = none := by
  cases q : H l with
  | none => rfl
  | some o =>
    have := x l o n q
    rw [h] at this
    cases this
theorem But.upd {a : Addr} {H H1 : Hp} {o : HO} (x : But a H H1) : But a H (upd H1 a o) := fun b u n e => by rw [upd_ne n]; exact x b u n e
theorem same_upd {H : Hp} {p : Addr} {o : HO} (h : H p = none) : Same H (upd H p o) := fun b u e => by rw [upd_ne (ne_of_none e h)]; exact e
end Rd

/-! Further rules: enumerate and sorted of a tuple; one of two ways to walk. -/
namespace Ru
open PySem PyProof.Rows
open PySem.AutoSeq1 (wpAny_loadPart')
section
variable {prog : Program} {w : World} {A : Around} {E : Value → Shared → Prop} {s : Shared}
theorem nextOf_tup {it t : Addr} {i : Nat} {items : Array Value} {x : Value} {Q : Value → Shared → Prop} (hit : s.heap.IsTupleIter it t i) (ht : s.heap.IsTuple t items) (hx : items[i]? = some x)
    (hQ : ∀ h', h'.IsTupleIter it t (i + 1) → Heap.SameBut it s.heap h' → Q x { s with heap := h' }) : wpAny (model prog w) A (Builtin.SmallTypes.nextOf (.ref it)) Q E s := by
  obtain ⟨oi, hoi, hci, hdi⟩ := id hit
  obtain ⟨ot, hot, _, nt, hdt⟩ := ht
  unfold Builtin.SmallTypes.nextOf
  refine wpAny_bind (wpAny_callSpecial?_slot (name := Str.ofString "__next__") hit.typeIs F.slot_tuple_iterator_next (wpAny_call_entry F.slot_tuple_iterator_next hit.typeIs F.entry_tuple_iterator_next ?_ (F.args_tuple_iterator_next_1 _)))
  show wpAny _ _ (field (.ref it) 0 >>= _) _ _ s
  refine wpAny_bind (wpAny_field hoi hdi (x := .ref t) rfl ?_)
  show wpAny _ _ (if (Value.ref t == Value.none) = true then _ else _) _ _ s
  rw [if_neg (show ¬ ((Value.ref t == Value.none) = true) from Bool.false_ne_true)]
  show wpAny _ _ (field (.ref it) 1 >>= _) _ _ s
  refine wpAny_bind (wpAny_field hoi hdi (x := .int i 0) rfl ?_)
  show wpAny _ _ (seqItems? (.ref t) >>= _) _ _ s
  refine wpAny_bind (wpAny_seqItems hot hdt ?_)
  simp only [Int.toNat_natCast, hx]
  refine wpAny_bind (wpAny_setField hoi hdi (by simp) (wpAny_pure ⟨x, rfl, wpAny_pure (hQ _ ?_ (Heap.SameBut.update ..))⟩))
  exact ⟨_, Heap.get?_update_self _ hoi (Obj.isFreed_of_fields (Obj.data_mapFields hdi _)), (Obj.cls_mapFields ..).trans hci, by rw [Obj.data_mapFields hdi]; simp [rawInt]⟩
theorem nextOf_tup_end {it t : Addr} {i : Nat} {items : Array Value} {Q : Value → Shared → Prop} (hh : A.handled = none) (hit : s.heap.IsTupleIter it t i) (ht : s.heap.IsTuple t items) (hx : items[i]? = none)
    (hE : ∀ h' e, Heap.ExtBut it s.heap h' → (∃ o, h'.get? e = some o ∧ o.cls = .type "StopIteration") → E (.ref e) { s with heap := h' }) : wpAny (model prog w) A (Builtin.SmallTypes.nextOf (.ref it)) Q E s := by
  obtain ⟨oi, hoi, hci, hdi⟩ := id hit
  obtain ⟨ot, hot, _, nt, hdt⟩ := ht
  unfold Builtin.SmallTypes.nextOf
  refine wpAny_bind (wpAny_callSpecial?_slot (name := Str.ofString "__next__") hit.typeIs F.slot_tuple_iterator_next (wpAny_call_entry F.slot_tuple_iterator_next hit.typeIs F.entry_tuple_iterator_next ?_ (F.args_tuple_iterator_next_1 _)))
  show wpAny _ _ (field (.ref it) 0 >>= _) _ _ s
  refine wpAny_bind (wpAny_field hoi hdi (x := .ref t) rfl ?_)
  show wpAny _ _ (if (Value.ref t == Value.none) = true then _ else _) _ _ s
  rw [if_neg (show ¬ ((Value.ref t == Value.none) = true) from Bool.false_ne_true)]
  show wpAny _ _ (field (.ref it) 1 >>= _) _ _ s
  refine wpAny_bind (wpAny_field hoi hdi (x := .int i 0) rfl ?_)
  show wpAny _ _ (seqItems? (.ref t) >>= _) _ _ s
  refine wpAny_bind (wpAny_seqItems hot hdt ?_)
  simp only [Int.toNat_natCast, hx]
  refine wpAny_bind (wpAny_rule (wpAny_bind (wpAny_setField hoi hdi (by simp) ?_)))
  show wpAny _ _ (newExc (.type "StopIteration") [] >>= _) _ _ _
  refine wpAny_bind ?_
  simp only [newExc, newTuple]
  refine wpAny_bind (wpAny_newObj_type ?_ (by size_fits))
  refine wpAny_bind (m := firstArgMember _ _) (wpAny_of_eq (a := Value.none) (by first | rfl | (simp only [firstArgMember]; rfl)) ?_)
  refine wpAny_newObj_type ?_ (by size_fits)
  simp only [raiseNew]
  refine wpAny_bind (wpAny_handled ?_)
  first | rw [show A.in1.handled = none from hh] | rw [hh]
  refine wpAny_bind (wpAny_pure (wpAny_throw ?_))
  exact hE _ _ (((Heap.SameBut.update ..).extBut.push _).push _) ⟨_, Heap.get?_push_size _ rfl, rfl⟩
end
theorem draws_tup {prog : Program} {w : World} {A : Around} (hh : A.handled = none) (it t : Addr) (hne : t ≠ it) (items : Array Value) :
    Draws prog w A it [it, t] items.size (fun i v => items[i]? = some v) (fun i h => h.IsTupleIter it t i ∧ h.IsTuple t items) where
  live := fun _ _ st => let ⟨o, ho, _⟩ := st.1; ⟨o, ho⟩
  frame := fun _ _ _ st hk => ⟨let ⟨o, ho, r⟩ := st.1; ⟨o, hk it (by simp) o ho, r⟩, let ⟨o, ho, r⟩ := st.2; ⟨o, hk t (by simp) o ho, r⟩⟩
  item := fun i s Q E hi st hQ => by
    refine nextOf_tup st.1 st.2 (x := items[i]) (by simp [hi]) fun h' k1 k2 => ?_
    exact hQ _ h' s.toks (by simp [hi]) ⟨k1, st.2.extBut k2.extBut hne⟩ k2
  done := fun s Q E st hE => nextOf_tup_end hh st.1 st.2 (by simp) hE
theorem meets_enum_tup (l : Addr) (items : Array Value) (n : Nat) (dct : Option Addr) (sl : Array (Option Value)) :
    Meets (Builtin.«enumerate.__new__» ⟨[.type "enumerate", .ref l], []⟩) (fun _ R s => s.heap.get? l = some { cls := .type "tuple", dict := dct, data := .seq items n, slots := sl } ∧
      R (.ok (.ret (.ref (s.heap.push { cls := .type "tuple_iterator", data := .fields #[.ref l, .int 0 0] }).objs.size)))
        { s with heap := (s.heap.push { cls := .type "tuple_iterator", data := .fields #[.ref l, .int 0 0] }).push { cls := .type "enumerate", data := .fields #[.none, .bool false, .ref s.heap.objs.size, rawInt 0, .none, .none] } }) :=
  .of_wp fun prog w A R s h => by
    obtain ⟨hp, g, d, tk, os⟩ := s
    obtain ⟨hl, h⟩ := h
    have hsub := sub_enumerate
    have hL : Heap.IsTuple (Shared.heap ⟨hp, g, d, tk, os⟩) l items := ⟨_, hl, rfl, n, rfl⟩
    wp_walk using wpAny_loadPart' hl
    refine wpAny_stack_any fun st => wpAny_pure ?_
    split
    · rename_i c _ _ _ _ _
      cases (c == Value.type "enumerate")
      · wp_walk using wpAny_loadPart' hl, wpAny_pyIter_tuple hL
        exact ⟨_, rfl, h⟩
      · wp_walk using wpAny_loadPart' hl, wpAny_pyIter_tuple hL
        exact ⟨_, rfl, h⟩
    · wp_walk using wpAny_loadPart' hl, wpAny_pyIter_tuple hL
      exact ⟨_, rfl, h⟩
section
variable {prog : Program} {w : World} {A : Around} {E : Value → Shared → Prop} {s : Shared}
theorem call_enum_tup {l : Addr} {items : Array Value} {Q : Value → Shared → Prop} (hL : s.heap.IsTuple l items)
    (h : ∀ h', IsEnum h' (s.heap.objs.size + 1) s.heap.objs.size 0 .none → h'.IsTupleIter s.heap.objs.size l 0 → h'.objs.size = s.heap.objs.size + 2 → (∀ b o, s.heap.get? b = some o → h'.get? b = some o) → Q (.ref (s.heap.objs.size + 1)) { s with heap := h' }) :
    wpAny (model prog w) A (call (.type "enumerate") [.ref l]) Q E s := by
  obtain ⟨⟨c, dct, dt, sl⟩, hl, hc, n, hd⟩ := hL
  replace hc : c = .type "tuple" := hc
  replace hd : dt = .seq items n := hd
  subst hc hd
  refine callType_new F.called_enumerate (by decide) (F.typeCall_enumerate_1 _) (F.newCall_enumerate_1 _) (fun obj => F.args_object_init_2 obj _) F.entry_enumerate_new (meets_enum_tup l items n dct sl) ⟨hl, ?_⟩
  have hz : (s.heap.push { cls := .type "tuple_iterator", data := .fields #[.ref l, .int 0 0] }).objs.size = s.heap.objs.size + 1 := Heap.size_push ..
  show _ ∧ _
  rw [hz]
  have he : IsEnum ((s.heap.push { cls := .type "tuple_iterator", data := .fields #[.ref l, .int 0 0] }).push { cls := .type "enumerate", data := .fields #[.none, .bool false, .ref s.heap.objs.size, rawInt 0, .none, .none] }) (s.heap.objs.size + 1) s.heap.objs.size 0 .none := by
    have q := Heap.get?_push_size (s.heap.push { cls := .type "tuple_iterator", data := .fields #[.ref l, .int 0 0] }) (o := { cls := .type "enumerate", data := .fields #[.none, .bool false, .ref s.heap.objs.size, rawInt 0, .none, .none] }) rfl
    rw [hz] at q
    exact q
  exact ⟨⟨_, he, rfl⟩, h _ he ⟨_, Heap.get?_push_of_some _ (Heap.get?_push_size _ rfl), rfl, rfl⟩ (by rw [Heap.size_push, hz]) fun b o x => Heap.get?_push_of_some _ (Heap.get?_push_of_some _ x)⟩
/-- a tuple is collected into a new list -/
theorem collect_tup {l : Addr} {vs : List Value} {Q : List Value → Shared → Prop} (hl : s.heap.IsTuple l vs.toArray) (hsz : vs.length ≤ sizeLine)
    (h : Q vs { s with heap := (s.heap.push (seqObj "list" #[] 0)).update s.heap.objs.size (Obj.mapSeq (· ++ vs.toArray)) }) : wpAny (model prog w) A (collect (.ref l)) Q E s := by
  obtain ⟨o, ho, hc, n, hd⟩ := id hl
  unfold collect
  refine wpAny_bind (wpAny_runValue (codeAny_builtin entry_proto_collect' ?_))
  show wpAny _ _ (do again (.builtin "list.__iadd__" ⟨[← newList [], .ref l], []⟩)) _ _ s
  refine wpAny_bind (wpAny_newList (wpAny_pure ⟨Code.quiet_builtin _ (by decide +kernel), codeAny_builtin entry_list_iadd' ?_⟩))
  show wpAny _ _ (Builtin.List.listExtendWith (.ref s.heap.objs.size) (.ref l) (.ref s.heap.objs.size)) _ _ { s with heap := s.heap.push (seqObj "list" #[] 0) }
  unfold Builtin.List.listExtendWith
  have ho' : (s.heap.push (seqObj "list" #[] 0)).get? l = some o := Heap.get?_push_of_some _ ho
  refine wpAny_bind (wpAny_typeOf (T := "tuple") ⟨o, ho', hc⟩ ?_)
  have ht : (Value.type "tuple" == Value.type "tuple") = true := by rfl
  rw [if_pos (by rw [ht]; simp)]
  refine wpAny_bind (listItems_at ho' hd ?_)
  refine wpAny_bind (listItems_at (xs := #[]) (n := 0) (Heap.get?_push_size _ rfl) rfl ?_)
  rw [if_neg (by simp)]
  refine wpAny_bind (listUpdate_at (xs := #[]) (n := 0) (Heap.get?_push_size _ rfl) rfl ?_ (Nat.zero_le _) (by show (#[] ++ vs.toArray).size ≤ sizeLine + 1; simp only [Array.size_append, List.size_toArray, List.length_nil]; omega))
  refine wpAny_pure ?_
  show wpAny (model prog w) A (do
      let o ← load s.heap.objs.size
      match o.data with
      | .seq xs _ => pure xs.toList
      | _ => unsupported "internal:collect") Q E { s with heap := (s.heap.push (seqObj "list" #[] 0)).update s.heap.objs.size (Obj.mapSeq (· ++ vs.toArray)) }
  refine wpAny_bind (wpAny_load (get?_update_seq (Heap.get?_push_size _ rfl) _) ?_)
  show wpAny _ _ (pure ((#[] : Array Value) ++ vs.toArray).toList) Q E _
  rw [show ((#[] : Array Value) ++ vs.toArray).toList = vs by simp]
  exact wpAny_pure h
end

section
variable {prog : Program} {w : World} {A : Around} {E : Value → Shared → Prop} {s : Shared}
open SrtO in
/-- sorted of a tuple: the new list stands at size + 1 -/
theorem sorted_tup {l : Addr} {vs : List Value} {ltv : Value → Value → Bool} {Q : Value → Shared → Prop} (O : Swo ltv) (hl : s.heap.IsTuple l vs.toArray) (hz : vs.length ≤ sizeLine)
    (hS : 2 ≤ vs.length → ∀ (g : Heap) (a : Addr), g.get? a = some (seqObj "list" vs.toArray 0) → (∀ b o, s.heap.get? b = some o → b ≠ a ∧ g.get? b = some o) → SortableO prog w A.in1.in1 { s with heap := g } a vs ltv)
    (h : ∀ out : List Value, Srtd ltv out → Stb ltv out vs → Q (.ref (s.heap.objs.size + 1)) { s with heap := sortedAll s.heap vs out.toArray }) : wpAny (model prog w) A (call (.builtin "sorted") [.ref l]) Q E s := by
  refine Calls.call_function_entry kind_sorted plain_sorted entry_sorted (args_sorted1 _) ?_
  unfold Builtin.«sorted»
  refine wpAny_bind (m := checkCount "sorted" 1 1 _) (wpAny_pure ?_)
  refine wpAny_bind (collect_tup hl hz ?_)
  refine wpAny_bind (wpAny_newList ?_ hz)
  have e1 : ((s.heap.push (seqObj "list" #[] 0)).update s.heap.objs.size (Obj.mapSeq (· ++ vs.toArray))).objs.size = s.heap.objs.size + 1 := by rw [Heap.size_update, size_push']
  have e2 : (((s.heap.push (seqObj "list" #[] 0)).update s.heap.objs.size (Obj.mapSeq (· ++ vs.toArray))).push (seqObj "list" vs.toArray 0)).get? (s.heap.objs.size + 1) = some (seqObj "list" vs.toArray 0) := by
    rw [← e1]
    exact Heap.get?_push_size _ rfl
  have e3 : ∀ b o, s.heap.get? b = some o → b ≠ s.heap.objs.size + 1 ∧ (((s.heap.push (seqObj "list" #[] 0)).update s.heap.objs.size (Obj.mapSeq (· ++ vs.toArray))).push (seqObj "list" vs.toArray 0)).get? b = some o := fun b o q => by
    have lt : b < s.heap.objs.size := Heap.lt_size q
    refine ⟨Nat.ne_of_lt (Nat.lt_succ_of_lt lt), Heap.get?_push_of_some _ ?_⟩
    rw [Heap.get?_update_ne _ _ _ _ (Nat.ne_of_lt lt)]
    exact Heap.get?_push_of_some _ q
  show wpAny _ _ _ _ _ { s with heap := ((s.heap.push (seqObj "list" #[] 0)).update s.heap.objs.size (Obj.mapSeq (· ++ vs.toArray))).push (seqObj "list" vs.toArray 0) }
  rw [e1]
  refine wpAny_bind (wpAny_holding (wpAny_call_entry slot_list_sort ⟨_, e2, rfl⟩ entry_list_sort (list_sort_ord O e2 hz (fun h2 => hS h2 _ _ e2 e3) fun out hs hb => ⟨_, rfl, ?_⟩) (args_list_sort _)))
  exact wpAny_pure ⟨_, rfl, h out hs hb⟩
end
end Ru
namespace Ru
open PySem PySem.Spec PyProof.Rows L2
/-- one of two ways to walk -/
theorem pi_or {X : Cx} {tg e : Expr} {t u : TI} (a : PI X tg e t) (b : PI X tg e u) : PI X tg e (fun σ H R => t σ H R ∨ u σ H R) := ⟨fun pins s σ H R I h => h.elim (a.run pins s σ H R I) (b.run pins s σ H R I)⟩
theorem callR_or {X : Cx} {f : Value} {r r' : List V → Hp → VK → Prop} (a : CallR X f r) (b : CallR X f r') : CallR X f (fun vs H Q => r vs H Q ∨ r' vs H Q) := fun pins s σ H vs us Q I rv h => h.elim (a pins s σ H vs us Q I rv) (b pins s σ H vs us Q I rv)
/-- sorted(t), t a tuple of ints -/
def rSortedTup (K : PySem.W.Frag) : List V → Hp → VK → Prop := fun vs H Q => ∃ (a : Addr) (ns : List Int), vs = [V.ref a] ∧ SqT K H a (ns.map V.int) ∧
  ∀ (ms : List Int) (p : Addr), ms.Perm ns → ms.Pairwise (· ≤ ·) → H p = none → Q (.ref p) (upd H p (.lst (ms.map V.int)))
theorem cr_sortedTup {X : Cx} : CallR X (.builtin "sorted") (rSortedTup X.K) := by
  intro pins s σ H vs us Q I r h
  obtain ⟨a, ns, rfl, hs, q⟩ := h
  obtain ⟨its, rv, hl, hz⟩ := I.tuple hs
  rw [Vals.ref1 r]
  have hi := rv.ints
  refine sorted_tup SrtO.swo_int (show s.heap.IsTuple a its.toArray from hl) (by rw [← rv.length]; exact hz) (fun h2 g b _ _ => SrtO.ints_sortable hi h2) fun out h1 h2 => ?_
  obtain ⟨k1, k2, k3⟩ := SrtO.ints_out hi h1 h2
  obtain ⟨ep, he⟩ := PyProof.Rows.sortedAll_at s.heap its out.toArray
  have ln : ((out.map SrtO.iv).map V.int).length ≤ sizeLine := by
    rw [List.length_map, k2.length_eq]
    rw [List.length_map] at hz
    exact hz
  exact ⟨.ref _, upd H (s.heap.objs.size + 1) (.lst ((out.map SrtO.iv).map V.int)), I.laid (t' := s.toks) (fun _ _ => PyProof.Rows.sortedAll_old) (Nat.le_succ _) ⟨ln, out, ep, vals_of_ints k1, he⟩, rfl, q _ _ k2 k3 (I.hok.fresh (Nat.le_succ _))⟩
/-- enumerate of a tuple: each item in a new pair -/
def IteT (K : PySem.W.Frag) (a : Addr) : It :=
  ⟨fun i H => ∃ (xs : List V) (x : V), SqT K H a xs ∧ xs[i]? = some x, fun i H v H' => ∃ T x, v = .ref T ∧ H T = none ∧ H' = upd H T (.tup [.int (i : Nat), x]) ∧ ∀ xs, SqT K H a xs → xs[i]? = some x, fun i H => ∃ xs : List V, SqT K H a xs ∧ xs.length = i⟩
theorem turn_enumT {P : Program} {w : World} {K : PySem.W.Frag} {elts : List Expr} {kk : Nat} {tpos : Pos} (a e it : Addr) :
    Turn P w K (.Tuple elts kk tpos) (IteT K a) [e, it] e (fun i h => (∃ old, IsEnum h e it ((i : Nat) : Int) old) ∧ h.IsTupleIter it a i ∧ e ≠ it) where
  mem := by simp
  obj := fun i h st b hb => by
    obtain ⟨⟨old, he⟩, ⟨o, ho, hc, hd⟩, _⟩ := st
    have z : b = e ∨ b = it := by simpa using hb
    rcases z with z | z
    · rw [z]; exact ⟨_, he, fun v q => nomatch q⟩
    · rw [z]; exact ⟨o, ho, fun v q => by rw [hd] at q; cases q⟩
  keep := fun i h h' st k => let ⟨⟨old, he⟩, ⟨o, ho, r⟩, hne⟩ := st; ⟨⟨old, k e (by simp) _ he⟩, ⟨o, k it (by simp) o ho, r⟩, hne⟩
  item := by
    intro X hP hw hK hc i pins s σ H E I hf st hg
    subst hP hw hK
    obtain ⟨⟨old, he⟩, hit, hne⟩ := st
    obtain ⟨xs, x, hq, hx⟩ := hg
    obtain ⟨its, rv, p, hz⟩ := I.tuple hq
    obtain ⟨u, hu, ru⟩ := rv.get hx
    have hel : e < s.heap.objs.size := Heap.lt_size he
    have hil : it < s.heap.objs.size := by obtain ⟨_, q, _⟩ := hit; exact Heap.lt_size q
    have hat : a ≠ it := fun z => by
      obtain ⟨o, q1, q2, _⟩ := hit
      obtain ⟨o', q3, q4, _⟩ := (show s.heap.IsTuple a its.toArray from p)
      rw [← z, q3] at q1
      cases q1
      rw [q4] at q2
      exact absurd (Value.type.inj q2) (by decide)
    have hea : e ≠ a := fun z => by
      obtain ⟨o', q3, q4, _⟩ := (show s.heap.IsTuple a its.toArray from p)
      rw [← z, he] at q3
      cases q3
      exact absurd (Value.type.inj q4) (by decide)
    have hlt : i < its.toArray.size := by
      have := (List.getElem?_eq_some_iff.mp hu).1
      simpa using this
    refine wpAny_pyNext_enum_itemD (draws_tup (prog := X.prog) (w := X.w) (A := X.A.in1) (I.ok.hd hc) it a hat its.toArray) he ⟨hit, p⟩ hlt hne (by simp [hne, hea]) fun y h' tk hy ho st' hT hsz hk => ?_
    have hy' : y = u := by
      have z : its.toArray[i]? = some u := by simpa using hu
      rw [z] at hy
      exact (Option.some.inj hy).symm
    subst hy'
    refine ⟨_, rfl, wpAny_letOwnedTupleGo_enum (s := { s with heap := h', toks := tk + 1 }) ho fun h'' he' sb => ?_⟩
    have hT2 : h''.get? s.heap.objs.size = some { cls := .type "tuple", data := .seq #[.int i tk, y] } := (sb.2 _ (Nat.ne_of_gt hel)).trans hT
    have new : ObjOk X.prog X.w (upd H s.heap.objs.size (.tup [.int (i : Nat), x])) h'' s.heap.objs.size (.tup [.int (i : Nat), x]) :=
      ⟨by show 2 ≤ sizeLine; decide, [.int i tk, y], .cons ⟨_, rfl⟩ (.cons ru .nil), ⟨_, hT2, rfl, _, rfl⟩⟩
    have I1 : Inv X pins σ (upd H s.heap.objs.size (.tup [.int (i : Nat), x])) { s with heap := h'', toks := tk + 1 } :=
      I.turnedNew (ch := [e, it]) (fun b ob hb q => (sb.2 b (fun z => hb (by simp [z]))).trans (hk b ob (fun z => hb (by simp [z])) (fun z => hb (by simp [z])) q)) hf (Nat.le_refl _) new
    refine ⟨.ref s.heap.objs.size, _, I1, rfl, ⟨_, x, rfl, I.hok.fresh (Nat.le_refl _), rfl, fun ys hy => by rw [I.tuple_inj hy hq]; exact hx⟩, ⟨⟨y, ?_⟩, ?_, hne⟩, fun b hb => ?_⟩
    · have e1 : ((i + 1 : Nat) : Int) = (i : Int) + 1 := by omega
      rw [e1]; exact he'
    · obtain ⟨o, q, r⟩ := st'.1
      exact ⟨o, (sb.2 it (Ne.symm hne)).trans q, r⟩
    · have hb' : b < s.heap.objs.size := by
        have z : b = e ∨ b = it := by simpa using hb
        rcases z with z | z
        · rw [z]; exact hel
        · rw [z]; exact hil
      rw [upd_ne (Nat.ne_of_lt hb')]
      exact (hf b hb).1
  done := by
    intro X hP hw hK hc i pins s σ H E I hf st hg
    subst hP hw hK
    obtain ⟨⟨old, he⟩, hit, hne⟩ := st
    obtain ⟨xs, hq, hx⟩ := hg
    obtain ⟨its, rv, p, hz⟩ := I.tuple hq
    obtain ⟨f0, f1, f2, f3, f4, f5⟩ := hf it (by simp)
    have hl := rv.length
    have hat : a ≠ it := fun z => by
      obtain ⟨o, q1, q2, _⟩ := hit
      obtain ⟨o', q3, q4, _⟩ := (show s.heap.IsTuple a its.toArray from p)
      rw [← z, q3] at q1
      cases q1
      rw [q4] at q2
      exact absurd (Value.type.inj q2) (by decide)
    have hn : i = its.toArray.size := by simp; omega
    refine wpAny_pyNext_enum_endD (draws_tup (prog := X.prog) (w := X.w) (A := X.A.in1) (I.ok.hd hc) it a hat its.toArray) he (by rw [hn] at hit; exact ⟨hit, p⟩) fun h' eb => ⟨rfl, ?_⟩
    obtain ⟨g0, g1, g2, g3, g4, g5⟩ := hf e (by simp)
    obtain ⟨f0, f1, f2, f3, f4, f5⟩ := hf it (by simp)
    exact I.turned (t' := s.toks) (fun b o hb q => eb b o hb q) f0 f1 f3 f4 f5
  self := fun A i s Q E st h => let ⟨⟨_, he⟩, _⟩ := st; wpAny_pyIter_enum he h
def iEnumT (K : PySem.W.Frag) (ta : TA) : TI := fun σ H R => ta σ H fun vs H1 => ∃ a xs, vs = [.ref a] ∧ SqT K H1 a xs ∧ R (IteT K a) H1
theorem pi_enumT {X : Cx} {e : Expr} {ta : TA} {p pos tpos : Pos} {elts : List Expr} {kk : Nat} (hg : Gl X "enumerate") (hm : X.mg "enumerate" = none) (ha : PA X [e] ta) (hs : starEach [e] X.env = [(false, eval e X.env)] := by rfl) :
    PI X (.Tuple elts kk tpos) (.Call (.Name "enumerate" p) [e] [] pos) (iEnumT X.K ta) := by
  refine ⟨fun pins s σ H R I h => ?_⟩
  refine Call_ (ld_blt I hg hm boot_enumerate (PyProof.Rows.callWith_type1 (thn (ha.run pos pins s σ H _ I h) fun us s1 ⟨vs, H1, I1, r1, q1⟩ => ?_) hs rfl))
  obtain ⟨a, xs, ex, hq, q⟩ := q1
  subst ex
  cases r1 with
  | cons r rr =>
    cases rr
    cases r
    obtain ⟨its, rv, p', hz⟩ := I1.tuple hq
    refine call_enum_tup (show s1.heap.IsTuple a its.toArray from p') fun h' he hit hsz hk => wpAny_pyIter_enum he ?_
    have I2 : Inv X pins σ H1 { s1 with heap := h' } := I1.kept (t' := s1.toks) hk
    refine ⟨s1.heap.objs.size + 1, [s1.heap.objs.size + 1, s1.heap.objs.size], _, _, H1, rfl, I2, turn_enumT a (s1.heap.objs.size + 1) s1.heap.objs.size, ⟨⟨.none, he⟩, hit, Nat.succ_ne_self _⟩, fun b hb => ?_, q⟩
    have z : b = s1.heap.objs.size + 1 ∨ b = s1.heap.objs.size := by simpa using hb
    have hle : s1.heap.objs.size ≤ b := by
      rcases z with z | z
      · rw [z]; exact Nat.le_add_right _ _
      · rw [z]; exact Nat.le_refl _
    exact I1.fpOk hle (I1.hok.fresh hle)
/-- a loop over enumerate of a list that stands still -/
theorem for_enum {K : PySem.W.Frag} {a : Addr} {xs : List V} {g : TG} {tb : TS} {D : Ends} {σ : L2.St} {H : Hp} (Pv : Nat → L2.St → Hp → Prop) (h0 : Pv 0 σ H) (hl : ∀ i σ H, i ≤ xs.length → Pv i σ H → SqL K H a xs)
    (hs : ∀ i x σ H (T : Addr), xs[i]? = some x → Pv i σ H → H T = none → g (.ref T) σ (upd H T (.tup [.int (i : Nat), x])) fun σ2 H2 => tb { D with nx := Pv (i + 1), ct := Pv (i + 1), bk := D.nx } σ2 H2) (hd : ∀ σ H, Pv xs.length σ H → D.nx σ H) :
    ∃ W : Nat → Nat → L2.St → Hp → Prop, (∃ m, W 0 m σ H) ∧ ∀ i m σ H, W i m σ H →
      ((Ite K a).stop i H ∧ D.nx σ H) ∨ ((Ite K a).go i H ∧ ∃ N : L2.St → Hp → Prop, (∀ σ' H', N σ' H' → ∃ m', m' < m ∧ W (i + 1) m' σ' H') ∧ ∀ x H', (Ite K a).yld i H x H' → g x σ H' fun σ2 H2 => tb { D with nx := N, ct := N, bk := D.nx } σ2 H2) := by
  refine ⟨fun i m σ H => m = xs.length - i ∧ i ≤ xs.length ∧ Pv i σ H, ⟨xs.length, by simp, Nat.zero_le _, h0⟩, ?_⟩
  rintro i m σ H ⟨rfl, hi, p⟩
  have q := hl i σ H hi p
  by_cases lt : i < xs.length
  · refine .inr ⟨⟨xs, xs[i], q, by simp [lt]⟩, Pv (i + 1), fun σ' H' p' => ⟨xs.length - (i + 1), by omega, rfl, lt, p'⟩, fun x H' y => ?_⟩
    obtain ⟨T, z, rfl, hT, rfl, y⟩ := y
    exact hs i z σ H T (y xs q) p hT
  · have e : i = xs.length := by omega
    subst e
    exact .inl ⟨⟨xs, q, Nat.le_refl _⟩, hd σ H p⟩
theorem for_enumT {K : PySem.W.Frag} {a : Addr} {xs : List V} {g : TG} {tb : TS} {D : Ends} {σ : L2.St} {H : Hp} (Pv : Nat → L2.St → Hp → Prop) (h0 : Pv 0 σ H) (hl : ∀ i σ H, i ≤ xs.length → Pv i σ H → SqT K H a xs)
    (hs : ∀ i x σ H (T : Addr), xs[i]? = some x → Pv i σ H → H T = none → g (.ref T) σ (upd H T (.tup [.int (i : Nat), x])) fun σ2 H2 => tb { D with nx := Pv (i + 1), ct := Pv (i + 1), bk := D.nx } σ2 H2) (hd : ∀ σ H, Pv xs.length σ H → D.nx σ H) :
    ∃ W : Nat → Nat → L2.St → Hp → Prop, (∃ m, W 0 m σ H) ∧ ∀ i m σ H, W i m σ H →
      ((IteT K a).stop i H ∧ D.nx σ H) ∨ ((IteT K a).go i H ∧ ∃ N : L2.St → Hp → Prop, (∀ σ' H', N σ' H' → ∃ m', m' < m ∧ W (i + 1) m' σ' H') ∧ ∀ x H', (IteT K a).yld i H x H' → g x σ H' fun σ2 H2 => tb { D with nx := N, ct := N, bk := D.nx } σ2 H2) := by
  refine ⟨fun i m σ H => m = xs.length - i ∧ i ≤ xs.length ∧ Pv i σ H, ⟨xs.length, by simp, Nat.zero_le _, h0⟩, ?_⟩
  rintro i m σ H ⟨rfl, hi, p⟩
  have q := hl i σ H hi p
  by_cases lt : i < xs.length
  · refine .inr ⟨⟨xs, xs[i], q, by simp [lt]⟩, Pv (i + 1), fun σ' H' p' => ⟨xs.length - (i + 1), by omega, rfl, lt, p'⟩, fun x H' y => ?_⟩
    obtain ⟨T, z, rfl, hT, rfl, y⟩ := y
    exact hs i z σ H T (y xs q) p hT
  · have e : i = xs.length := by omega
    subst e
    exact .inl ⟨⟨xs, q, rfl⟩, hd σ H p⟩
/-! ### a row: a list or a tuple -/
def SqR (K : PySem.W.Frag) (H : Hp) (a : Addr) (xs : List V) : Prop := SqL K H a xs ∨ SqT K H a xs
theorem same_tup {K : PySem.W.Frag} {H H' : Hp} {a : Addr} {xs : List V} (e : Same H H') (h : SqT K H a xs) : SqT K H' a xs := by
  rcases h with (h | ⟨o, h⟩) | h
  · exact .inl (.inl (e _ _ h))
  · exact .inl (.inr ⟨o, e _ _ h⟩)
  · exact .inr h
theorem SqR.same {K : PySem.W.Frag} {H H' : Hp} {a : Addr} {xs : List V} (e : Same H H') (h : SqR K H a xs) : SqR K H' a xs := h.imp e.seq (same_tup e)
/-- a loop over a row that stands still -/
theorem for_row {K : PySem.W.Frag} {a : Addr} {xs : List V} {g : TG} {tb : TS} {D : Ends} {σ : L2.St} {H : Hp} {ta : TE} (ea : ∀ Q, Q (.ref a) H → ta σ H Q) (Pv : Nat → L2.St → Hp → Prop) {Hb : Hp} (hr : SqR K Hb a xs) (h0 : Pv 0 σ H) (hl : ∀ i σ H', i ≤ xs.length → Pv i σ H' → Same Hb H')
    (hs : ∀ i x σ H, xs[i]? = some x → Pv i σ H → g x σ H fun σ2 H2 => tb { D with nx := Pv (i + 1), ct := Pv (i + 1), bk := D.nx } σ2 H2) (hd : ∀ σ H, Pv xs.length σ H → D.nx σ H) :
    tFor (fun σ H R => iList K ta σ H R ∨ iTup K ta σ H R) g tb D σ H := by
  rcases hr with hr | hr
  · exact .inl (ea _ ⟨a, rfl, ⟨_, (hl 0 σ H (Nat.zero_le _) h0).seq hr⟩, for_list (K := K) (a := a) (xs := xs) Pv h0 (fun i σ H' hi p => (hl i σ H' hi p).seq hr) hs hd⟩)
  · exact .inr (ea _ ⟨a, rfl, ⟨_, same_tup (hl 0 σ H (Nat.zero_le _) h0) hr⟩, for_tup (K := K) (a := a) (xs := xs) Pv h0 (fun i σ H' hi p => same_tup (hl i σ H' hi p) hr) hs hd⟩)
/-- .. over enumerate of a row -/
theorem for_enumR {K : PySem.W.Frag} {a : Addr} {xs : List V} {g : TG} {tb : TS} {D : Ends} {σ : L2.St} {H : Hp} {ta : TA} (ea : ∀ Q, Q [.ref a] H → ta σ H Q) (Pv : Nat → L2.St → Hp → Prop) {Hb : Hp} (hr : SqR K Hb a xs) (h0 : Pv 0 σ H) (hl : ∀ i σ H', i ≤ xs.length → Pv i σ H' → Same Hb H')
    (hs : ∀ i x σ H (T : Addr), xs[i]? = some x → Pv i σ H → H T = none → g (.ref T) σ (upd H T (.tup [.int (i : Nat), x])) fun σ2 H2 => tb { D with nx := Pv (i + 1), ct := Pv (i + 1), bk := D.nx } σ2 H2) (hd : ∀ σ H, Pv xs.length σ H → D.nx σ H) :
    tFor (fun σ H R => iEnum K ta σ H R ∨ iEnumT K ta σ H R) g tb D σ H := by
  rcases hr with hr | hr
  · exact .inl (ea _ ⟨a, _, rfl, (hl 0 σ H (Nat.zero_le _) h0).seq hr, for_enum (K := K) (a := a) (xs := xs) Pv h0 (fun i σ H' hi p => (hl i σ H' hi p).seq hr) hs hd⟩)
  · exact .inr (ea _ ⟨a, _, rfl, same_tup (hl 0 σ H (Nat.zero_le _) h0) hr, for_enumT (K := K) (a := a) (xs := xs) Pv h0 (fun i σ H' hi p => same_tup (hl i σ H' hi p) hr) hs hd⟩)
theorem ty_L {K : PySem.W.Frag} {H : Hp} {a : Addr} {xs : List V} (h : SqL K H a xs) : TyX K H (.ref a) (.type "list") := by
  rcases h with (h | ⟨o, h⟩) | ⟨o, its, n, h1, h2, _⟩
  · exact .base (.lst h)
  · exact .base (.frz h)
  · exact .kList h1 h2
theorem ty_T {K : PySem.W.Frag} {H : Hp} {a : Addr} {xs : List V} (h : SqT K H a xs) : TyX K H (.ref a) (.type "tuple") := by
  rcases h with (h | ⟨o, h⟩) | ⟨o, its, n, h1, h2, _⟩
  · exact .base (.tup h)
  · exact .fTuple h
  · exact .kTuple h1 h2
/-- isinstance(row, (list, tuple)) -/
theorem isRow {K : PySem.W.Frag} {H : Hp} {a tp : Addr} {xs : List V} {Q : VK} (h : SqR K H a xs) (ht : H tp = some (.tup [.ty "list", .ty "tuple"])) (q : Q (.bl true) H) : rIsiT K [.ref a, .ref tp] H Q := by
  have pc : Paired ClsV [.ty "list", .ty "tuple"] [.type "list", .type "tuple"] := .cons (.ty _) (.cons (.ty _) .nil)
  rcases h with h | h
  · exact ⟨_, tp, _, _, _, true, rfl, ht, pc, ty_L h, kitAny_cons (kit_ty (r := true) (by decide +kernel)) (fun z => nomatch z) (fun _ => rfl), q⟩
  · exact ⟨_, tp, _, _, _, true, rfl, ht, pc, ty_T h, kitAny_cons (kit_ty (r := false) (by decide +kernel)) (fun _ => kitAny_cons (kit_ty (r := true) (by decide +kernel)) (fun z => nomatch z) (fun _ => rfl)) (fun z => nomatch z), q⟩
theorem sortedR {K : PySem.W.Frag} {H : Hp} {a : Addr} {ns : List Int} {Q : VK} (hp : SqR K H a (ns.map V.int)) (h : ∀ (ms : List Int) (p : Addr) (G : Hp), ms.Perm ns → ms.Pairwise (· ≤ ·) → G p = some (.lst (ms.map V.int)) → Same H G → H p = none → Q (.ref p) G) : rSortedI K [.ref a] H Q ∨ rSortedTup K [.ref a] H Q :=
  hp.imp (fun q => Rd.sortedI q h) fun q => ⟨a, ns, rfl, q, fun ms p h1 h2 h3 => h ms p _ h1 h2 upd_same (fun b u e => by rw [upd_ne (ne_of_none e h3)]; exact e) h3⟩
end Ru

/-! Readings of texts, comprehensions and own objects by their heads; letters. -/
namespace Rd
open PySem PySem.Spec PyProof.Rows L2
variable {X : Cx} {D : Ends} {σ : L2.St} {H : Hp} {K : PySem.W.Frag}
/-! ### texts -/
def nAddS : R2 := fun x y H Q => ∃ i j, x = .str i ∧ y = .str j ∧ i.length + j.length ≤ sizeLine ∧ Q (.str (i ++ j)) H
theorem o_addS : OpR X (binaryOp .Add) nAddS := op_add_str
theorem addS {i j : Str} {Q : VK} (hz : i.length + j.length ≤ sizeLine) (h : Q (.str (i ++ j)) H) : nAddS (.str i) (.str j) H Q := ⟨i, j, rfl, rfl, hz, h⟩
def nInC : R2 := fun x y H Q => ∃ (c : Nat) (z : Str), x = .str ⟨#[c]⟩ ∧ y = .str z ∧ Q (.bl (decide (c ∈ z.cps.toList))) H
theorem o_inC : OpR X (compareOp .In) nInC := op_in_sign
theorem inC {c : Nat} {z : Str} {Q : VK} (h : Q (.bl (decide (c ∈ z.cps.toList))) H) : nInC (.str ⟨#[c]⟩) (.str z) H Q := ⟨c, z, rfl, rfl, h⟩
theorem inCT {c : Nat} {z : Str} {Q : VK} (e : c ∈ z.cps.toList) (h : Q (.bl true) H) : nInC (.str ⟨#[c]⟩) (.str z) H Q := inC (by rw [decide_eq_true e]; exact h)
theorem nodup_take {α : Type} {l : List α} {i : Nat} {x : α} (nd : l.Nodup) (h : l[i]? = some x) : x ∉ l.take i := by
  intro m
  obtain ⟨j, hj, e⟩ := List.getElem_of_mem m
  rw [List.length_take] at hj
  have e2 : l[j]? = some x := by rw [← e, List.getElem_take]; exact List.getElem?_eq_getElem (by omega)
  have := (List.getElem?_inj (by omega) nd).mp (e2.trans h.symm)
  omega
theorem ixS {z : Str} {i : Int} {c : Nat} {Q : VK} (hz : z.length ≤ sizeLine) (e : atI z.cps.toList i = some c) (h : Q (.str ⟨#[c]⟩) H) : rIxS (.str z) (.int i) H Q := ⟨z, i, c, rfl, rfl, hz, e, h⟩
theorem inStrs {neg : Bool} {z : Str} {p : Addr} {ws : List Str} {Q : VK} (hp : SqL K H p (ws.map V.str) ∨ SqT K H p (ws.map V.str)) (h : Q (.bl (if neg then !decide (z ∈ ws) else decide (z ∈ ws))) H) : rIn K neg (.str z) (.ref p) H Q := by
  have e : inV (.str z) (ws.map V.str) = decide (z ∈ ws) := by
    unfold inV
    rw [List.any_map, Bool.eq_iff_iff, List.any_eq_true, decide_eq_true_iff]
    constructor
    · rintro ⟨y, hy, q⟩
      have : y = z := by simpa [eqV] using q
      exact this ▸ hy
    · intro hz
      exact ⟨z, hz, by simp [eqV]⟩
  exact Rd.inS hp rfl (flat_strs ws) (by rw [e]; exact h)
theorem inStrsY {z : Str} {p : Addr} {ws : List Str} {Q : VK} (hp : SqL K H p (ws.map V.str) ∨ SqT K H p (ws.map V.str)) (h : Q (.bl (decide (z ∈ ws))) H) : rIn K false (.str z) (.ref p) H Q := inStrs hp h
theorem inStrsN {z : Str} {p : Addr} {ws : List Str} {Q : VK} (hp : SqL K H p (ws.map V.str) ∨ SqT K H p (ws.map V.str)) (h : Q (.bl (!decide (z ∈ ws))) H) : rIn K true (.str z) (.ref p) H Q := inStrs hp h
theorem inInts {neg : Bool} {z : Int} {p : Addr} {ws : List Int} {Q : VK} (hp : SqL K H p (ws.map V.int) ∨ SqT K H p (ws.map V.int)) (h : Q (.bl (if neg then !decide (z ∈ ws) else decide (z ∈ ws))) H) : rIn K neg (.int z) (.ref p) H Q := by
  have e : inV (.int z) (ws.map V.int) = decide (z ∈ ws) := by
    unfold inV
    rw [List.any_map, Bool.eq_iff_iff, List.any_eq_true, decide_eq_true_iff]
    constructor
    · rintro ⟨y, hy, q⟩
      have : y = z := by simpa [eqV] using q
      exact this ▸ hy
    · intro hz
      exact ⟨z, hz, by simp [eqV]⟩
  exact Rd.inS hp rfl (by rw [List.all_map]; exact List.all_eq_true.mpr fun _ _ => rfl) (by rw [e]; exact h)
theorem inIntsY {z : Int} {p : Addr} {ws : List Int} {Q : VK} (hp : SqL K H p (ws.map V.int) ∨ SqT K H p (ws.map V.int)) (h : Q (.bl (decide (z ∈ ws))) H) : rIn K false (.int z) (.ref p) H Q := inInts hp h
theorem inIntsN {z : Int} {p : Addr} {ws : List Int} {Q : VK} (hp : SqL K H p (ws.map V.int) ∨ SqT K H p (ws.map V.int)) (h : Q (.bl (!decide (z ∈ ws))) H) : rIn K true (.int z) (.ref p) H Q := inInts hp h
theorem map_str {ns : List Str} {i : Nat} (h : i < ns.length) : (ns.map V.str)[i]? = some (.str ns[i]) := by simp [h]
theorem map_strG {ns : List Str} {i : Nat} {x : V} (h : (ns.map V.str)[i]? = some x) : ∃ n, ns[i]? = some n ∧ x = .str n := by
  rw [List.getElem?_map] at h
  cases e : ns[i]? with
  | none => rw [e] at h; cases h
  | some z => rw [e] at h; exact ⟨z, rfl, (Option.some.inj h).symm⟩
theorem map_refG {ns : List Addr} {i : Nat} {x : V} (h : (ns.map V.ref)[i]? = some x) : ∃ n, ns[i]? = some n ∧ x = .ref n := by
  rw [List.getElem?_map] at h
  cases e : ns[i]? with
  | none => rw [e] at h; cases h
  | some z => rw [e] at h; exact ⟨z, rfl, (Option.some.inj h).symm⟩
theorem map_ref {ns : List Addr} {i : Nat} (h : i < ns.length) : (ns.map V.ref)[i]? = some (.ref ns[i]) := by simp [h]
theorem ins {l : Addr} {xs : List V} {i : Int} {y : V} {Q : VK} (hp : H l = some (.lst xs)) (hz : xs.length < sizeLine) (h0 : 0 ≤ i) (h1 : i < 2 ^ 63) (h : ∀ G : Hp, G l = some (.lst (xs.take i.toNat ++ [y] ++ xs.drop i.toNat)) → (∀ b, b ≠ l → G b = H b) → Q .non G) :
    ∃ (l' : Addr) (xs' : List V) (i' : Int) (y' : V), V.ref l = .ref l' ∧ [V.int i, y] = [.int i', y'] ∧ H l' = some (.lst xs') ∧ xs'.length < sizeLine ∧ 0 ≤ i' ∧ i' < 2 ^ 63 ∧ Q .non (upd H l' (.lst (xs'.take i'.toNat ++ [y'] ++ xs'.drop i'.toNat))) :=
  ⟨l, xs, i, y, rfl, rfl, hp, hz, h0, h1, h _ upd_same fun b hb => upd_ne hb⟩
def nInsert : V → List V → Hp → VK → Prop := fun x vs H Q => ∃ (l : Addr) (xs : List V) (i : Int) (y : V), x = .ref l ∧ vs = [.int i, y] ∧ H l = some (.lst xs) ∧ xs.length < sizeLine ∧ 0 ≤ i ∧ i < 2 ^ 63 ∧
    Q .non (upd H l (.lst (xs.take i.toNat ++ [y] ++ xs.drop i.toNat)))
theorem m_insert : MtR X "list.insert" nInsert := mt_insert
theorem insert {l : Addr} {xs : List V} {i : Int} {y : V} {Q : VK} (hp : H l = some (.lst xs)) (hz : xs.length < sizeLine) (h0 : 0 ≤ i) (h1 : i < 2 ^ 63) (h : ∀ G : Hp, G l = some (.lst (xs.take i.toNat ++ [y] ++ xs.drop i.toNat)) → (∀ b, b ≠ l → G b = H b) → Q .non G) : nInsert (.ref l) [.int i, y] H Q :=
  ins hp hz h0 h1 h
/-! ### equal lists of texts -/
theorem dpAll_strs : ∀ ns : List Str, DpAll K H (ns.map V.str) (ns.map PyData.str)
  | [] => .nil
  | n :: ns => .cons (.str n) (dpAll_strs ns)
theorem canLay_strs : ∀ ns : List Str, (∀ z ∈ ns, PyData.strOk z = true) → PyData.canLayAll0 (ns.map PyData.str) = true
  | [], _ => rfl
  | n :: ns, h => by
    show (PyData.canLay0 (.str n) && PyData.canLayAll0 (ns.map PyData.str)) = true
    rw [canLay_strs ns fun z hz => h z (List.mem_cons_of_mem _ hz)]
    show (PyData.strOk n && true) = true
    rw [h n List.mem_cons_self]
    rfl
theorem depth_strs : ∀ ns : List Str, PyData.depthAll (ns.map PyData.str) = 0
  | [] => rfl
  | n :: ns => by
    show max (PyData.depth (.str n)) (PyData.depthAll (ns.map PyData.str)) = 0
    rw [depth_strs ns]
    rfl
theorem shaped_strs {ns : List Str} (h : ∀ z ∈ ns, PyData.strOk z = true) : SeqAt.shaped (.list (ns.map PyData.str)) = true := by
  have h1 : PyData.canLay0 (.list (ns.map PyData.str)) = true := canLay_strs ns h
  have h2 : PyData.depth (.list (ns.map PyData.str)) = 1 := by
    show PyData.depthAll (ns.map PyData.str) + 1 = 1
    rw [depth_strs]
  unfold SeqAt.shaped
  rw [h1, h2]
  rfl
theorem eqStrs {a b : Addr} {ns : List Str} {Q : VK} (h1 : SqL K H a (ns.map V.str)) (h2 : SqL K H b (ns.map V.str)) (h : ∀ z ∈ ns, PyData.strOk z = true) (q : Q (.bl true) H) : rEqD K (.ref a) (.ref b) H Q := by
  refine ⟨_, _, .lst h1 (dpAll_strs ns), .lst h2 (dpAll_strs ns), shaped_strs h, shaped_strs h, ?_⟩
  rw [SeqAt.eqv_refl _ (SeqAt.canLay_of_shaped (shaped_strs h))]
  exact q
theorem neStrs {a b : Addr} {ns : List Str} {Q : VK} (h1 : SqL K H a (ns.map V.str)) (h2 : SqL K H b (ns.map V.str)) (h : ∀ z ∈ ns, PyData.strOk z = true) (q : Q (.bl false) H) : rNeD K (.ref a) (.ref b) H Q := by
  refine ⟨_, _, .lst h1 (dpAll_strs ns), .lst h2 (dpAll_strs ns), shaped_strs h, shaped_strs h, ?_⟩
  rw [SeqAt.eqv_refl _ (SeqAt.canLay_of_shaped (shaped_strs h))]
  exact q
/-! ### equal lists of ints -/
theorem dpAll_ints : ∀ ns : List Int, DpAll K H (ns.map V.int) (ns.map PyData.int)
  | [] => .nil
  | n :: ns => .cons (.int n) (dpAll_ints ns)
theorem canLay_ints : ∀ ns : List Int, PyData.canLayAll0 (ns.map PyData.int) = true
  | [] => rfl
  | n :: ns => by
    show (PyData.canLay0 (.int n) && PyData.canLayAll0 (ns.map PyData.int)) = true
    rw [canLay_ints ns]
    rfl
theorem depth_ints : ∀ ns : List Int, PyData.depthAll (ns.map PyData.int) = 0
  | [] => rfl
  | n :: ns => by
    show max (PyData.depth (.int n)) (PyData.depthAll (ns.map PyData.int)) = 0
    rw [depth_ints ns]
    rfl
theorem shaped_ints (ns : List Int) : SeqAt.shaped (.list (ns.map PyData.int)) = true := by
  have h1 : PyData.canLay0 (.list (ns.map PyData.int)) = true := canLay_ints ns
  have h2 : PyData.depth (.list (ns.map PyData.int)) = 1 := by
    show PyData.depthAll (ns.map PyData.int) + 1 = 1
    rw [depth_ints]
  unfold SeqAt.shaped
  rw [h1, h2]
  rfl
theorem eqv_ints : ∀ (xs ys : List Int), PyData.eqvAll (xs.map PyData.int) (ys.map PyData.int) = decide (xs = ys)
  | [], [] => rfl
  | [], _ :: _ => rfl
  | _ :: _, [] => rfl
  | x :: xs, y :: ys => by
    show (PyData.eqv (.int x) (.int y) && PyData.eqvAll (xs.map PyData.int) (ys.map PyData.int)) = _
    rw [eqv_ints xs ys, Bool.eq_iff_iff]
    show ((x == y) && decide (xs = ys)) = true ↔ _
    simp
theorem eqInts {a b : Addr} {ns ms : List Int} {Q : VK} (h1 : SqL K H a (ns.map V.int)) (h2 : SqL K H b (ms.map V.int)) (q : Q (.bl (decide (ns = ms))) H) : rEqD K (.ref a) (.ref b) H Q := by
  refine ⟨_, _, .lst h1 (dpAll_ints ns), .lst h2 (dpAll_ints ms), shaped_ints ns, shaped_ints ms, ?_⟩
  show Q (.bl (PyData.eqvAll (ns.map PyData.int) (ms.map PyData.int))) H
  rw [eqv_ints]
  exact q
theorem neInts {a b : Addr} {ns ms : List Int} {Q : VK} (h1 : SqL K H a (ns.map V.int)) (h2 : SqL K H b (ms.map V.int)) (q : Q (.bl (!decide (ns = ms))) H) : rNeD K (.ref a) (.ref b) H Q := by
  refine ⟨_, _, .lst h1 (dpAll_ints ns), .lst h2 (dpAll_ints ms), shaped_ints ns, shaped_ints ms, ?_⟩
  show Q (.bl (!PyData.eqvAll (ns.map PyData.int) (ms.map PyData.int))) H
  rw [eqv_ints]
  exact q
/-! ### comprehensions -/
def Lc (J : It) (g : TG) (tt : TT) (te : TE) (vs : List Nat) (σ : L2.St) (H1 : Hp) (Q : VK) : Prop := ∀ D, H1 D = none → ∃ W : Nat → Nat → Hp → Prop, (∃ m, W 0 m (upd H1 D (.lst []))) ∧ ∀ i m H, W i m H →
  (J.stop i H ∧ Q (.ref D) H) ∨ (J.go i H ∧ ∃ Nx : Hp → Prop, (∀ H', Nx H' → ∃ m', m' < m ∧ W (i + 1) m' H') ∧ ∀ x H', J.yld i H x H' → g x (wipe σ vs) H' fun σ2 H2 => wipe σ2 vs = wipe σ vs ∧ tt σ2 H2 fun b H3 =>
    if b = true then te σ2 H3 fun y H4 => ∃ acc, H4 D = some (.lst acc) ∧ acc.length < sizeLine ∧ Nx (upd H4 D (.lst (acc ++ [y]))) else Nx H3)
theorem lc {wi : TI} {g : TG} {tt : TT} {te : TE} {vs : List Nat} {Q : VK} (h : wi σ H fun J H1 => Lc J g tt te vs σ H1 Q) : tLc wi g tt te vs σ H Q := h
theorem istr {te : TE} {R : It → Hp → Prop} (h : te σ H fun v H1 => ∃ x, v = .str x ∧ R (Its x) H1) : iStr te σ H R := h
theorem strE {z : Str} {P : Str → Prop} (h : P z) : ∃ x, V.str z = .str x ∧ P x := ⟨z, rfl, h⟩
theorem tyes {Q : Bool → Hp → Prop} (h : Q true H) : tYes σ H Q := h
/-- the state of a comprehension: the list at D holds acc, all ahead of it stands -/
def LcP (D : Addr) (H1 : Hp) (R : Nat → List V → Hp → Prop) : Nat → Hp → Prop := fun i H => ∃ acc, H D = some (.lst acc) ∧ Same H1 H ∧ R i acc H
def LcPush (D : Addr) (H1 : Hp) (R : Nat → List V → Hp → Prop) (i : Nat) (y : V) (H4 : Hp) : Prop := ∃ acc, H4 D = some (.lst acc) ∧ acc.length < sizeLine ∧ LcP D H1 R (i + 1) (upd H4 D (.lst (acc ++ [y])))
theorem lcPush {D : Addr} {H1 H4 : Hp} {R : Nat → List V → Hp → Prop} {i : Nat} {y : V} {acc : List V} (hD : H4 D = some (.lst acc)) (nD : H1 D = none) (s1 : Same H1 H4) (hz : acc.length < sizeLine) (r : ∀ G : Hp, G D = some (.lst (acc ++ [y])) → (∀ b, b ≠ D → G b = H4 b) → R (i + 1) (acc ++ [y]) G) : LcPush D H1 R i y H4 :=
  ⟨acc, hD, hz, acc ++ [y], upd_same, fun b o e => by rw [upd_ne (ne_of_none e nD)]; exact s1 b o e, r _ upd_same fun b hb => upd_ne hb⟩
theorem lcS {J : It} {n : Nat} {G : Hp → Prop} {Y : Nat → Hp → V → Hp → Prop} (w : Walk J n G Y) {g : TG} {tt : TT} {te : TE} {vs : List Nat} {H1 : Hp} {Q : VK} (hG : ∀ H, Same H1 H → G H) (R : Addr → Nat → List V → Hp → Prop)
    (r0 : ∀ (D : Addr) (G : Hp), H1 D = none → G D = some (.lst []) → Same H1 G → R D 0 [] G)
    (hs : ∀ (D : Addr) i x H H' acc, H1 D = none → i < n → H D = some (.lst acc) → Same H1 H → R D i acc H → Y i H x H' → g x (wipe σ vs) H' fun σ2 H2 => wipe σ2 vs = wipe σ vs ∧ tt σ2 H2 fun b H3 =>
      if b = true then te σ2 H3 fun y H4 => LcPush D H1 (R D) i y H4 else LcP D H1 (R D) (i + 1) H3)
    (hd : ∀ (D : Addr) acc H, H1 D = none → H D = some (.lst acc) → Same H1 H → R D n acc H → Q (.ref D) H) : Lc J g tt te vs σ H1 Q := fun D nD =>
  lc_it w (LcP D H1 (R D)) ⟨[], upd_same, same_upd nD, r0 D _ nD upd_same (same_upd nD)⟩ (fun i H hi ⟨acc, h1, h2, h3⟩ => hG H h2)
    (fun i x H H' hi ⟨acc, h1, h2, h3⟩ y => hs D i x H H' acc nD hi h1 h2 h3 y) (fun H ⟨acc, h1, h2, h3⟩ => hd D acc H nD h1 h2 h3)
/-- .. over a row: a list or a tuple -/
theorem lcRow {a : Addr} {xs : List V} {ta : TE} {g : TG} {tt : TT} {te : TE} {vs : List Nat} {H1 : Hp} {Q : VK} (ea : ∀ Q : VK, Q (.ref a) H1 → ta σ H1 Q) (hr : Ru.SqR K H1 a xs) (R : Addr → Nat → List V → Hp → Prop)
    (r0 : ∀ (D : Addr) (G : Hp), H1 D = none → G D = some (.lst []) → Same H1 G → R D 0 [] G)
    (hs : ∀ (D : Addr) i x H acc, H1 D = none → i < xs.length → H D = some (.lst acc) → Same H1 H → R D i acc H → xs[i]? = some x → g x (wipe σ vs) H fun σ2 H2 => wipe σ2 vs = wipe σ vs ∧ tt σ2 H2 fun b H3 =>
      if b = true then te σ2 H3 fun y H4 => LcPush D H1 (R D) i y H4 else LcP D H1 (R D) (i + 1) H3)
    (hd : ∀ (D : Addr) acc H, H1 D = none → H D = some (.lst acc) → Same H1 H → R D xs.length acc H → Q (.ref D) H) : (fun σ H R => iList K ta σ H R ∨ iTup K ta σ H R) σ H1 fun J H1 => Lc J g tt te vs σ H1 Q := by
  rcases hr with hr | hr
  · exact .inl (ea _ ⟨a, rfl, ⟨_, hr⟩, lcS walk_list (fun _ s => s.seq hr) R r0 (fun D i x H H' acc nD hi hD sm r ⟨e, hx⟩ => by cases e; exact hs D i x H acc nD hi hD sm r hx) hd⟩)
  · exact .inr (ea _ ⟨a, rfl, ⟨_, hr⟩, lcS walk_tup (fun _ s => Ru.same_tup s hr) R r0 (fun D i x H H' acc nD hi hD sm r ⟨e, hx⟩ => by cases e; exact hs D i x H acc nD hi hD sm r hx) hd⟩)
theorem wipeE {A B : L2.St} {P : Prop} (e : A = B) (h : P) : A = B ∧ P := ⟨e, h⟩
/-! ### list(range(..)) -/
theorem lstRg {te : L2.St → Hp → (Int → Int → Hp → Prop) → Prop} {Q : VK} (h : te σ H fun a b H1 => RgOk a b ∧ NewQ (.lst (rgV a b)) Q H1) : tLstRg te σ H Q := h
theorem tupRg {te : L2.St → Hp → (Int → Int → Hp → Prop) → Prop} {Q : VK} (h : te σ H fun a b H1 => RgOk a b ∧ NewQ (.tup (rgV a b)) Q H1) : tTupRg te σ H Q := h
theorem rg1 {ta : TE} {Q : Int → Int → Hp → Prop} (h : ta σ H fun x H1 => ∃ n, x = .int n ∧ Q 0 n H1) : tRg1 ta σ H Q := h
theorem rg2 {ta tb : TE} {Q : Int → Int → Hp → Prop} (h : ta σ H fun x H1 => tb σ H1 fun y H2 => ∃ i j, x = .int i ∧ y = .int j ∧ Q i j H2) : tRg2 ta tb σ H Q := h
theorem intE2 {i j : Int} {P : Int → Int → Prop} (h : P i j) : ∃ a b, V.int i = .int a ∧ V.int j = .int b ∧ P a b := ⟨i, j, rfl, rfl, h⟩
theorem rgV0 (n : Nat) : rgV 0 (n : Int) = ((List.range n).map fun i : Nat => (i : Int)).map V.int := by
  unfold rgV
  rw [List.map_map, show ((n : Int) - 0).toNat = n by omega]
  refine List.map_congr_left fun i _ => ?_
  show V.int (0 + (i : Nat)) = V.int (i : Int)
  rw [Int.zero_add]
/-! ### dicts with ints as keys -/
theorem dnew {Q : VK} (h : ∀ (p : Addr) (G : Hp), H p = none → G p = some (.dK []) → Same H G → Q (.ref p) G) : tDNewK σ H Q :=
  fun p hp => h p _ hp upd_same fun b u e => by rw [upd_ne (ne_of_none e hp)]; exact e
theorem dgetH {td ty : TE} {Q : VK} (h : td σ H fun x H1 => ty σ H1 fun y H2 => ∃ a v, x = .ref a ∧ DGet H2 a y (some v) ∧ Q v H2) : tDGet td ty σ H Q := h
theorem dget {a : Addr} {kvs : List (Key × V)} {k : Int} {v : V} {P : V → Prop} (e : H a = some (.dK kvs)) (hv : valV kvs (.inl k) = some v) (q : P v) : ∃ a' v', V.ref a = .ref a' ∧ DGet H a' (.int k) (some v') ∧ P v' :=
  ⟨a, v, rfl, hv ▸ DGet.k (k := .inl k) e, q⟩
theorem dgetF {a : Addr} {o : Obj} {kvs : List (Key × V)} {k : Int} {v : V} {P : V → Prop} (e : H a = some (.frz o (.dK kvs))) (hv : valV kvs (.inl k) = some v) (q : P v) : ∃ a' v', V.ref a = .ref a' ∧ DGet H a' (.int k) (some v') ∧ P v' :=
  ⟨a, v, rfl, .inl ⟨kvs, .inl k, .inr ⟨o, e⟩, rfl, hv.symm⟩, q⟩
theorem dinH {ty td : TE} {Q : VK} (h : ty σ H fun y H1 => td σ H1 fun x H2 => ∃ a o, x = .ref a ∧ DGet H2 a y o ∧ Q (.bl o.isSome) H2) : tDIn ty td σ H Q := h
theorem dninH {ty td : TE} {Q : VK} (h : ty σ H fun y H1 => td σ H1 fun x H2 => ∃ a o, x = .ref a ∧ DGet H2 a y o ∧ Q (.bl (!o.isSome)) H2) : tDNotIn ty td σ H Q := h
theorem dany {a : Addr} {kvs : List (Key × V)} {k : Int} {P : Option V → Prop} (e : H a = some (.dK kvs)) (q : P (valV kvs (.inl k))) : ∃ a' o, V.ref a = .ref a' ∧ DGet H a' (.int k) o ∧ P o :=
  ⟨a, _, rfl, DGet.k (k := .inl k) e, q⟩
theorem dput {a : Addr} {kvs : List (Key × V)} {k : Int} {v : V} {Q : Hp → Prop} (e : H a = some (.dK kvs)) (hl : kvs.length < sizeLine) (h : ∀ G : Hp, G a = some (.dK (putK kvs (.inl k) v)) → (∀ b, b ≠ a → G b = H b) → Q G) : rSetD (.ref a) (.int k) v H Q :=
  ⟨a, _, rfl, DPut.k (k := .inl k) e hl, h _ upd_same fun b hb => upd_ne hb⟩
theorem dget1H {td ty : TE} {Q : VK} (h : td σ H fun x H1 => ∃ a, x = .ref a ∧ IsD H1 a ∧ ty σ H1 fun y H2 => ∃ o, DGet H2 a y o ∧ Q (o.getD .non) H2) : tDGet1 td ty σ H Q := h
theorem isD {a : Addr} {kvs : List (Key × V)} {P : Addr → Prop} (e : H a = some (.dK kvs)) (q : P a) : ∃ a', V.ref a = .ref a' ∧ IsD H a' ∧ P a' := ⟨a, rfl, .inl ⟨kvs, .inl e⟩, q⟩
theorem dgetO {a : Addr} {kvs : List (Key × V)} {k : Int} {P : Option V → Prop} (e : H a = some (.dK kvs)) (q : P (valV kvs (.inl k))) : ∃ o, DGet H a (.int k) o ∧ P o := ⟨_, DGet.k (k := .inl k) e, q⟩
/-- a for over the keys of a dict that is written nowhere in it -/
theorem forD {td : TE} {g : TG} {tb : TS} {a : Addr} {kvs : List (Key × V)} (hd : H a = some (.dK kvs)) (et : ∀ (H1 : Hp) (Q : VK), Q (.ref a) H1 → td σ H1 Q) (Pv : Nat → L2.St → Hp → Prop)
    (h0 : ∀ od, Pv 0 σ (upd H a (.frz od (.dK kvs)))) (hs : ∀ od i k v σ H, kvs[i]? = some (k, v) → H a = some (.frz od (.dK kvs)) → Pv i σ H → g (kV k) σ H fun σ2 H2 => tb { nx := fun σ' H' => H' a = some (.frz od (.dK kvs)) ∧ Pv (i + 1) σ' H', rt := fun v H' => H' a = some (.frz od (.dK kvs)) ∧ D.rt v (upd H' a (.dK kvs)), bk := fun σ' H' => H' a = some (.frz od (.dK kvs)) ∧ D.nx σ' (upd H' a (.dK kvs)), ct := fun σ' H' => H' a = some (.frz od (.dK kvs)) ∧ Pv (i + 1) σ' H' } σ2 H2)
    (hn : ∀ od σ H, H a = some (.frz od (.dK kvs)) → Pv kvs.length σ H → D.nx σ (upd H a (.dK kvs))) : tLock (tFor (iKeys td) g tb) D σ H := by
  refine ⟨a, .dK kvs, hd, trivial, fun od => ?_⟩
  refine et _ _ ⟨a, od, rfl, .inl ⟨kvs, upd_same, ?_⟩⟩
  exact for_it walk_keys (fun i σ H => H a = some (.frz od (.dK kvs)) ∧ Pv i σ H) ⟨upd_same, h0 od⟩ (fun i σ H _ h => h.1)
    (fun i x σ H H' hi ⟨h1, h2⟩ ⟨e, k, v, hk, hx⟩ => by cases e; cases hx; exact hs od i k v σ H hk h1 h2) (fun σ H ⟨h1, h2⟩ => ⟨h1, hn od σ H h1 h2⟩)
def nListD : List V → Hp → VK → Prop := fun xs H Q => ∃ p kvs, xs = [.ref p] ∧ H p = some (.dK kvs) ∧ ∀ q, H q = none → Q (.ref q) (upd H q (.lst (kvs.map fun kv => kV kv.1)))
theorem listD {a : Addr} {kvs : List (Key × V)} {Q : VK} (e : H a = some (.dK kvs)) (h : NewQ (.lst (kvs.map fun kv => kV kv.1)) Q H) : rListD [.ref a] H Q := ⟨a, kvs, rfl, e, h⟩
/-! ### joins -/
theorem m1 {r : V → List V → Hp → VK → Prop} {to te : TE} {Q : VK} (h : to σ H fun x H1 => (∃ a, x = .str a) ∧ te σ H1 fun y H2 => r x [y] H2 Q) : tM1 r to te σ H Q := h
theorem strX {a : Str} {R : Prop} (h : R) : (∃ b, V.str a = .str b) ∧ R := ⟨⟨a, rfl⟩, h⟩
theorem join {a : Str} {p : Addr} {ys : List Str} {Q : VK} (hp : SqL K H p (ys.map V.str) ∨ SqT K H p (ys.map V.str)) (hz : (ys.map (·.length)).sum + ys.length * a.length ≤ 16777216) (h : Q (.str (Txt.join a ys)) H) :
    ∃ a' p', ∃ ys' : List Str, V.str a = .str a' ∧ [V.ref p] = [.ref p'] ∧ (SqL K H p' (ys'.map V.str) ∨ SqT K H p' (ys'.map V.str)) ∧ (ys'.map (·.length)).sum + ys'.length * a'.length ≤ 16777216 ∧ Q (.str (Txt.join a' ys')) H := ⟨a, p, ys, rfl, rfl, hp, hz, h⟩
/-! ### own objects -/
def FldG (K : PySem.W.Frag) (f : Str) : V → Hp → VK → Prop := fun x H1 Q => ∃ a C dx fs v, x = .ref a ∧ H1 a = some (.ins C dx fs) ∧ Cls K C ∧ NoAttr K C f ∧ fs.lookup f = some v ∧ Q v H1
theorem fldH {ta : TE} {f : Str} {Q : VK} (h : ta σ H fun x H1 => FldG K f x H1 Q) : tFld K ta f σ H Q := h
theorem fld {f : Str} {a C dx : Addr} {fs : List (Str × V)} {v : V} {Q : VK} (e : H a = some (.ins C dx fs)) (c : Cls K C) (n : NoAttr K C f) (l : fs.lookup f = some v) (q : Q v H) : FldG K f (.ref a) H Q := ⟨a, C, dx, fs, v, rfl, e, c, n, l, q⟩
def FldS (K : PySem.W.Frag) (f : Str) (y : V) : V → Hp → (Hp → Prop) → Prop := fun x H2 Q => ∃ a C dx fs, x = .ref a ∧ H2 a = some (.ins C dx fs) ∧ Cls K C ∧ NoAttr K C f ∧ fs.length < 1000 ∧ Q (upd H2 a (.ins C dx (putF f y fs)))
theorem sfldH {ta tv : TE} {f : Str} (h : tv σ H fun y H1 => ta σ H1 fun x H2 => FldS K f y x H2 (D.nx σ)) : sFld K ta tv f D σ H := h
theorem sfld {f : Str} {a C dx : Addr} {fs fs' : List (Str × V)} {y : V} {Q : Hp → Prop} (e : H a = some (.ins C dx fs)) (c : Cls K C) (n : NoAttr K C f) (l : fs.length < 1000) (hf : putF f y fs = fs') (q : ∀ G : Hp, G a = some (.ins C dx fs') → (∀ b, b ≠ a → G b = H b) → Q G) : FldS K f y (.ref a) H Q :=
  ⟨a, C, dx, fs, rfl, e, c, n, l, hf ▸ q _ upd_same fun b hb => upd_ne hb⟩
def MkG (C : Addr) (sp : Sp) (dvs : List V) (E : XK) (vs : List V) (H1 : Hp) (Q : VK) : Prop := ∀ x dx, H1 x = none → H1 dx = none → dx ≠ x → sp (.ref x :: (vs ++ dvs)) (upd (upd H1 dx (.own x)) x (.ins C dx [])) (fun v H2 => v = .non ∧ Q (.ref x) H2) E
theorem mkH {C : Addr} {sp : Sp} {dvs : List V} {E : XK} {t : TA} {Q : VK} (h : t σ H fun vs H1 => MkG C sp dvs E vs H1 Q) : tMake C sp dvs E t σ H Q := h
theorem mk {C : Addr} {sp : Sp} {dvs : List V} {E : XK} {vs : List V} {Q : VK} (h : ∀ (x dx : Addr) (G : Hp), H x = none → H dx = none → dx ≠ x → G x = some (.ins C dx []) → Same H G → (∀ b, b ≠ x → b ≠ dx → G b = H b) → sp (.ref x :: (vs ++ dvs)) G (fun v H2 => v = .non ∧ Q (.ref x) H2) E) : MkG C sp dvs E vs H Q := fun x dx hx hd hne =>
  h x dx _ hx hd hne upd_same (fun b o e => by rw [upd_ne (ne_of_none e hx), upd_ne (ne_of_none e hd)]; exact e) fun b h1 h2 => by rw [upd_ne h1, upd_ne h2]
def MethG (C : Addr) (m : Str) (x : V) (H : Hp) (Q : Prop) : Prop := ∃ a dx fs, x = .ref a ∧ H a = some (.ins C dx fs) ∧ fs.lookup m = none ∧ Q
theorem methH {C : Addr} {m : Str} {sp : Sp} {dvs : List V} {E : XK} {ta : TE} {t : TA} {Q : VK} (h : ta σ H fun x H1 => MethG C m x H1 (t σ H1 fun vs H2 => sp (x :: (vs ++ dvs)) H2 Q E)) : tMeth C m sp dvs E ta t σ H Q := h
theorem meth {C : Addr} {m : Str} {a dx : Addr} {fs : List (Str × V)} {Q : Prop} (e : H a = some (.ins C dx fs)) (l : fs.lookup m = none) (q : Q) : MethG C m (.ref a) H Q := ⟨a, dx, fs, rfl, e, l, q⟩
/-! ### isinstance -/
theorem isi {x : V} {a b : String} {r : Bool} {Q : VK} (ht : TyX K H x (.type a)) (h : kitB a b = some r) (q : Q (.bl r) H) : rIsi K [x, .ty b] H Q := ⟨_, _, _, _, r, rfl, .ty b, ht, kit_ty h, q⟩
theorem isiStr {z : Str} {Q : VK} (q : Q (.bl true) H) : rIsi K [.str z, .ty "str"] H Q := isi (.base (.str z)) (by decide +kernel) q
theorem isiB {z : Bool} {Q : VK} (q : Q (.bl true) H) : rIsi K [.bl z, .ty "bool"] H Q := isi (.base (.bl z)) (by decide +kernel) q
theorem isiI {z : Int} {Q : VK} (q : Q (.bl true) H) : rIsi K [.int z, .ty "int"] H Q := isi (.base (.int z)) (by decide +kernel) q
theorem isiIB {z : Int} {Q : VK} (q : Q (.bl false) H) : rIsi K [.int z, .ty "bool"] H Q := isi (.base (.int z)) (by decide +kernel) q
end Rd
namespace W
open PySem PySem.Spec PyProof.Rows L2
theorem kit_self {K : PySem.W.Frag} {C : Addr} : PySem.W.kitOne K (.ref C) (.ref C) = some true := by
  unfold PySem.W.kitOne
  simp
/-- what isinstance asks of an own class -/
structure OwnTy (K : PySem.W.Frag) (C : Addr) : Prop where
  ha : PySem.W.findIn K (.ref C) "__class__" = some (some (.builtin "object.__class__"))
  hn : PySem.W.specialIn K (.builtin "object.__class__") "__get__" = some (some (.builtin "getset_descriptor.__get__"))
  htk : PySem.W.takesIn K (.builtin "object.__class__") = some true
  hm : PySem.W.mroIn K C (.type "object") = some true
  me : PySem.W.kitOne K (.ref C) (.ref C) = some true
theorem isiOwn {K : PySem.W.Frag} {H : Hp} {a C dx : Addr} {fs : List (Str × V)} {Q : VK} (c : Cls K C) (o : OwnTy K C) (e : H a = some (.ins C dx fs)) (q : Q (.bl true) H) : rIsi K [.ref a, .ref C] H Q :=
  ⟨_, _, _, _, true, rfl, .own C, .base (.ins e c o.ha o.hn o.htk o.hm), o.me, q⟩
end W
/-! ### letters -/
namespace Lt
open PySem PySem.Spec PyProof.Rows L2
def Abc : Str := "abcdefghijklmnopqrstuvwxyz"
def Let (z : Str) : Prop := ∀ c ∈ z.cps.toList, c ∈ Abc.cps.toList
theorem Let.app {a b : Str} (x : Let a) (y : Let b) : Let (a ++ b) := fun c h => by
  have : c ∈ a.cps.toList ++ b.cps.toList := by
    rw [← Array.toList_append]
    exact h
  exact (List.mem_append.mp this).elim (x c) (y c)
theorem len_app (a b : Str) : (a ++ b).length = a.length + b.length := Array.size_append
theorem Let.cut {z : Str} (x : Let z) (lo hi : Option Int) : Let (cutS z lo hi) := fun c h => x c (List.mem_of_mem_drop (List.mem_of_mem_take (show c ∈ (z.cps.toList.drop _).take _ from by simpa [cutS] using h)))
theorem Let.one {c : Nat} (h : c ∈ Abc.cps.toList) : Let ⟨#[c]⟩ := fun d hd => by
  have : d = c := by simpa using hd
  exact this ▸ h
theorem Let.empty : Let "" := fun c h => by exact absurd h (by decide +revert)
theorem Let.ok {z : Str} (x : Let z) : PyData.strOk z = true := by
  unfold PyData.strOk
  rw [Array.all_eq_true']
  intro c hc
  have h := x c (by simpa using hc)
  have : ∀ c ∈ Abc.cps.toList, decide (c < 0x110000) = true := by decide +kernel
  exact this c h
theorem Let.char {z : Str} (x : Let z) {c : Nat} {i : Nat} (h : z.cps.toList[i]? = some c) : c ∈ Abc.cps.toList := x c (List.mem_of_getElem? h)
theorem cut_len {z : Str} {a b : Nat} (h : a ≤ b) (hb : b ≤ z.length) : (cutS z (some (a : Int)) (some (b : Int))).length = b - a := by
  show (((z.cps.toList.drop (HT.sIx z.length 0 (some (a : Int)))).take (HT.sIx z.length z.length (some (b : Int)) - HT.sIx z.length 0 (some (a : Int)))).toArray).size = b - a
  rw [List.size_toArray, List.length_take, List.length_drop, Array.length_toList, HT.sIx_nat, HT.sIx_nat]
  unfold Str.length at hb ⊢
  omega
theorem cut_lenI {z : Str} {a b : Int} (h0 : 0 ≤ a) (h : a ≤ b) (hb : b ≤ z.length) : ((cutS z (some a) (some b)).length : Int) = b - a := by
  have := cut_len (z := z) (a := a.toNat) (b := b.toNat) (by omega) (by omega)
  rw [show ((a.toNat : Nat) : Int) = a by omega, show ((b.toNat : Nat) : Int) = b by omega] at this
  omega
theorem cut_from {z : Str} {a : Int} (h0 : 0 ≤ a) (h : a ≤ z.length) : ((cutS z (some a) none).length : Int) = z.length - a := by
  have e : (cutS z (some a) none).length = z.length - a.toNat := by
    show (((z.cps.toList.drop (HT.sIx z.length 0 (some a))).take (HT.sIx z.length z.length none - HT.sIx z.length 0 (some a))).toArray).size = _
    have e1 : HT.sIx z.length 0 (some a) = a.toNat := by
      have := HT.sIx_nat z.length 0 a.toNat
      rw [show ((a.toNat : Nat) : Int) = a by omega] at this
      rw [this]
      omega
    rw [List.size_toArray, List.length_take, List.length_drop, Array.length_toList, e1]
    show min (z.length - a.toNat) (z.cps.size - a.toNat) = _
    unfold Str.length
    omega
  omega
theorem cut_to {z : Str} {b : Int} (h0 : 0 ≤ b) : ((cutS z none (some b)).length : Int) = min b z.length := by
  have e : (cutS z none (some b)).length = min b.toNat z.length := by
    show (((z.cps.toList.drop (HT.sIx z.length 0 none)).take (HT.sIx z.length z.length (some b) - HT.sIx z.length 0 none)).toArray).size = _
    have e1 : HT.sIx z.length z.length (some b) = min b.toNat z.length := by
      have := HT.sIx_nat z.length z.length b.toNat
      rw [show ((b.toNat : Nat) : Int) = b by omega] at this
      exact this
    have e2 : HT.sIx z.length 0 none = 0 := rfl
    rw [List.size_toArray, List.length_take, List.length_drop, Array.length_toList, e1, e2]
    unfold Str.length
    omega
  omega
theorem join_let : ∀ ys : List Str, (∀ y ∈ ys, Let y) → Let (Str.join "" ys) ∧ (Str.join "" ys).length = (ys.map (·.length)).sum
  | [], _ => ⟨fun c h => by exact absurd h (by decide +revert), by decide +kernel⟩
  | [y], h => ⟨h y (by simp), by simp [Str.join]⟩
  | y :: z :: r, h => by
    have ih := join_let (z :: r) fun x hx => h x (List.mem_cons_of_mem _ hx)
    have e : Str.join "" (y :: z :: r) = y ++ "" ++ Str.join "" (z :: r) := rfl
    rw [e]
    refine ⟨((h y List.mem_cons_self).app Let.empty).app ih.1, ?_⟩
    rw [len_app, len_app, ih.2, show (Str.ofString "").length = 0 by decide +kernel]
    show y.length + 0 + _ = (y.length :: (z :: r).map (·.length)).sum
    rw [List.sum_cons]
    rfl
theorem join_one {ys : List Str} {n : Nat} (hl : ys.length = n) (h : ∀ y ∈ ys, Let y ∧ y.length = 1) : Let (Txt.join "" ys) ∧ (Txt.join "" ys).length = n ∧ (ys.map (·.length)).sum = n := by
  have j := join_let ys fun y hy => (h y hy).1
  have e : (ys.map (·.length)).sum = ys.length := by
    clear j hl
    induction ys with
    | nil => rfl
    | cons y r ih => rw [List.map_cons, List.sum_cons, ih fun x hx => h x (List.mem_cons_of_mem _ hx), (h y List.mem_cons_self).2, List.length_cons]; omega
  rw [TL.join_eq]
  exact ⟨j.1, by rw [j.2, e, hl], by rw [e, hl]⟩
theorem ne_of_len {z : Str} (h : 0 < z.length) : ¬ z = "" := fun e => by
  subst e
  exact absurd h (by decide +revert)
theorem len_of_ne {z : Str} (h : ¬ z = "") : 0 < z.length := by
  rcases Nat.eq_zero_or_pos z.length with e | e
  · exfalso
    refine h ?_
    have : z.cps = #[] := Array.eq_empty_of_size_eq_zero e
    cases z
    simp only at this
    subst this
    decide +kernel
  · exact e
/-- a word: some letters, at least one, at most n -/
structure Wd (n : Int) (z : Str) : Prop where
  ok : Let z
  l0 : 1 ≤ z.length
  l1 : (z.length : Int) ≤ n
theorem Wd.mono {n m : Int} {z : Str} (h : Wd n z) (k : n ≤ m) : Wd m z := ⟨h.ok, h.l0, Int.le_trans h.l1 k⟩
theorem Wd.line {n : Int} {z : Str} (h : Wd n z) (k : n ≤ 1000000) : z.length ≤ sizeLine := by
  have := h.l1
  rw [sizeLine_eq]
  omega
end Lt
namespace W
open PySem PySem.Spec PyProof.Rows L2
/-! ### the tape, books -/
def Tape (H : Hp) (t c : Addr) : Prop := ∃ (ns : List Int) (x y z u : Int), t ≠ c ∧ H t = some (.lst [.ref c, .int x, .int y, .int z, .int u]) ∧ H c = some (.lst (ns.map V.int)) ∧ 0 ≤ x ∧ x ≤ ns.length ∧ 0 ≤ z ∧ z < 2147483647
theorem Tape.same {H H' : Hp} {t c : Addr} (h : Tape H t c) (s : Same H H') : Tape H' t c := by
  obtain ⟨ns, x, y, z, u, n, h1, h2, r⟩ := h
  exact ⟨ns, x, y, z, u, n, s _ _ h1, s _ _ h2, r⟩
theorem Tape.off {H H' : Hp} {t c l : Addr} (h : Tape H t c) (h1 : l ≠ t) (h2 : l ≠ c) (e : ∀ b, b ≠ l → H' b = H b) : Tape H' t c := by
  obtain ⟨ns, x, y, z, u, n, g1, g2, r⟩ := h
  exact ⟨ns, x, y, z, u, n, by rw [e t h1.symm]; exact g1, by rw [e c h2.symm]; exact g2, r⟩
theorem Tape.new {H : Hp} {t c l : Addr} (h : Tape H t c) (n : H l = none) : l ≠ t ∧ l ≠ c := by
  obtain ⟨ns, x, y, z, u, _, g1, g2, r⟩ := h
  exact ⟨(ne_of_none g1 n).symm, (ne_of_none g2 n).symm⟩
theorem _root_.Rd.tape_same {H H' : Hp} {t c : Addr} (s : Same H H') (h : Tape H t c) : Tape H' t c := h.same s
theorem _root_.Rd.ntT {H : Hp} {t c l : Addr} (n : H l = none) (h : Tape H t c) : l ≠ t := (h.new n).1
theorem _root_.Rd.ntT' {H : Hp} {t c l : Addr} (n : H l = none) (h : Tape H t c) : l ≠ c := (h.new n).2
/-- some watches: no two alike, at most twelve, each of some letters -/
structure Watches (ws : List Str) : Prop where
  nd : ws.Nodup
  l1 : ws.length ≤ 12
  ok : ∀ z ∈ ws, Lt.Wd 12 z
/-- a book of the watches ws stands at b -/
def BookAt (C : Addr) (H : Hp) (b : Addr) (ws : List Str) : Prop := ∃ dx t, H b = some (.ins C dx [("watches", .ref t)]) ∧ H t = some (.tup (ws.map V.str))
theorem BookAt.same {C : Addr} {H H' : Hp} {b : Addr} {ws : List Str} (h : BookAt C H b ws) (s : Same H H') : BookAt C H' b ws := let ⟨dx, t, h1, h2⟩ := h; ⟨dx, t, s _ _ h1, s _ _ h2⟩
theorem BookAt.but {C t c : Addr} {H H' : Hp} {b : Addr} {ws : List Str} (h : BookAt C H b ws) (tp : Tape H t c) (s : Rd.But t H H') : BookAt C H' b ws := by
  obtain ⟨dx, q, h1, h2⟩ := h
  obtain ⟨ns, x, y, z, u, _, g1, g2, r⟩ := tp
  exact ⟨dx, q, s _ _ (ne_of h1 g1 (fun e => nomatch e)) h1, s _ _ (ne_of h2 g1 (fun e => nomatch e)) h2⟩
theorem snoc_nodup {α : Type} {ws : List α} {y : α} (nd : ws.Nodup) (q : ¬ y ∈ ws) : (ws ++ [y]).Nodup := by
  rw [List.nodup_append]
  exact ⟨nd, by simp, fun x hx z hz e => q (by simp at hz; rw [← hz, ← e]; exact hx)⟩
theorem _root_.Rd.book_same {C : Addr} {H H' : Hp} {b : Addr} {ws : List Str} (s : Same H H') (h : BookAt C H b ws) : BookAt C H' b ws := h.same s
theorem _root_.Rd.book_but {C t c : Addr} {H H' : Hp} {b : Addr} {ws : List Str} (s : Rd.But t H H') (tp : Tape H t c) (h : BookAt C H b ws) : BookAt C H' b ws := h.but tp s
end W
/-! ### what is kept, for the search by hypotheses -/
namespace Rd
open PySem PySem.Spec PyProof.Rows L2
variable {H H' : Hp} {K : PySem.W.Frag}
theorem neN {H : Hp} {a b : Addr} {o : HO} (h' : H b = none) (h : H a = some o) : a ≠ b := ne_of_none h h'
theorem neN' {H : Hp} {a b : Addr} {o : HO} (h' : H b = none) (h : H a = some o) : b ≠ a := (ne_of_none h h').symm
theorem same_tr {H H1 H2 : Hp} (b : Same H1 H2) (a : Same H H1) : Same H H2 := a.trans b
theorem but_tr {t : Addr} {H H1 H2 : Hp} (b : But t H1 H2) (a : But t H H1) : But t H H2 := a.trans b
theorem but_sm {t : Addr} {H H1 H2 : Hp} (b : Same H1 H2) (a : But t H H1) : But t H H2 := a.same b
theorem same_of2 {l : Addr} {H0 H H' : Hp} (off : ∀ b, b ≠ l → H' b = H b) (n : H0 l = none) (s : Same H0 H) : Same H0 H' := fun b o e => by rw [off b (ne_of_none e n)]; exact s b o e
theorem but_of2 {t l : Addr} {H0 H H' : Hp} (off : ∀ b, b ≠ l → H' b = H b) (n : H0 l = none) (s : But t H0 H) : But t H0 H' := fun b o h e => by rw [off b (ne_of_none e n)]; exact s b o h e
theorem at_same {a : Addr} {o : HO} (s : Same H H') (e : H a = some o) : H' a = some o := s a o e
theorem at_but {t a : Addr} {o : HO} (b : But t H H') (n : a ≠ t) (e : H a = some o) : H' a = some o := b a o n e
theorem at_off {l a : Addr} {o : HO} (off : ∀ b, b ≠ l → H' b = H b) (n : a ≠ l) (e : H a = some o) : H' a = some o := by rw [off a n]; exact e
theorem same_off {l : Addr} {H0 : Hp} (s : Same H0 H) (n : H0 l = none) (off : ∀ b, b ≠ l → H' b = H b) : Same H0 H' := fun b o e => by rw [off b (ne_of_none e n)]; exact s b o e
theorem but_off' {t l : Addr} {H0 : Hp} (s : But t H0 H) (n : H0 l = none) (off : ∀ b, b ≠ l → H' b = H b) : But t H0 H' := fun b o h e => by rw [off b (ne_of_none e n)]; exact s b o h e
theorem lenS {p : Addr} {ys : List Str} {H : Hp} {Q : VK} (hp : SqL K H p (ys.map V.str) ∨ SqT K H p (ys.map V.str)) (h : Q (.int (ys.length : Nat)) H) : nLen K [.ref p] H Q := ⟨p, _, rfl, hp, by rw [List.length_map]; exact h⟩
theorem lenI {p : Addr} {ys : List Int} {H : Hp} {Q : VK} (hp : SqL K H p (ys.map V.int) ∨ SqT K H p (ys.map V.int)) (h : Q (.int (ys.length : Nat)) H) : nLen K [.ref p] H Q := ⟨p, _, rfl, hp, by rw [List.length_map]; exact h⟩
theorem lenR {p : Addr} {ys : List Addr} {H : Hp} {Q : VK} (hp : SqL K H p (ys.map V.ref) ∨ SqT K H p (ys.map V.ref)) (h : Q (.int (ys.length : Nat)) H) : nLen K [.ref p] H Q := ⟨p, _, rfl, hp, by rw [List.length_map]; exact h⟩
end Rd

/-! numbers with a top and a bottom, as the law of fractions reckons them. -/
namespace Mx
open Rat (divInt)
/-- what the greatest common part is divided by, with the bottom's sign -/
def part (t u : Int) : Int := if u < 0 then -((Nat.gcd t.natAbs u.natAbs : Nat) : Int) else ((Nat.gcd t.natAbs u.natAbs : Nat) : Int)
theorem gcd_pos {t u : Int} (h : u ≠ 0) : 0 < Nat.gcd t.natAbs u.natAbs := Nat.gcd_pos_of_pos_right _ (by omega)
theorem gcd_le {t u : Int} (h : u ≠ 0) : Nat.gcd t.natAbs u.natAbs ≤ u.natAbs := Nat.gcd_le_right _ (by omega)
theorem part_ne {t u : Int} (h : u ≠ 0) : part t u ≠ 0 := by
  have := gcd_pos (t := t) h
  unfold part
  split <;> omega
theorem part_abs (t u : Int) : (part t u).natAbs = Nat.gcd t.natAbs u.natAbs := by
  unfold part
  split <;> omega
theorem dvd_t (t u : Int) : part t u ∣ t := by
  have h : ((Nat.gcd t.natAbs u.natAbs : Nat) : Int) ∣ t := Int.ofNat_dvd_left.mpr (Nat.gcd_dvd_left ..)
  unfold part
  split
  · exact Int.neg_dvd.mpr h
  · exact h
theorem dvd_u (t u : Int) : part t u ∣ u := by
  have h : ((Nat.gcd t.natAbs u.natAbs : Nat) : Int) ∣ u := Int.ofNat_dvd_left.mpr (Nat.gcd_dvd_right ..)
  unfold part
  split
  · exact Int.neg_dvd.mpr h
  · exact h
theorem top_of {t u : Int} (h : u ≠ 0) : t.fdiv (part t u) = (divInt t u).num := by
  have hd : ((Nat.gcd t.natAbs u.natAbs : Nat) : Int) ∣ t := Int.ofNat_dvd_left.mpr (Nat.gcd_dvd_left ..)
  rw [Int.fdiv_eq_ediv_of_dvd (dvd_t t u), Rat.num_divInt, show Int.gcd u t = Nat.gcd t.natAbs u.natAbs from Nat.gcd_comm ..]
  unfold part
  split
  · rename_i c
    rw [Int.sign_eq_neg_one_of_neg c, Int.ediv_neg, Int.neg_mul, Int.one_mul, Int.neg_ediv_of_dvd hd]
  · rename_i c
    rw [Int.sign_eq_one_of_pos (by omega), Int.one_mul]
theorem bot_of {t u : Int} (h : u ≠ 0) : u.fdiv (part t u) = ((divInt t u).den : Int) := by
  have hd : ((Nat.gcd t.natAbs u.natAbs : Nat) : Int) ∣ u := Int.ofNat_dvd_left.mpr (Nat.gcd_dvd_right ..)
  rw [Int.fdiv_eq_ediv_of_dvd (dvd_u t u), Rat.den_divInt, if_neg h, show Int.gcd u t = Nat.gcd t.natAbs u.natAbs from Nat.gcd_comm ..]
  unfold part
  split
  · rename_i c
    rw [Int.ediv_neg, ← Int.neg_ediv_of_dvd hd, Int.natCast_ediv]
    congr 1
    omega
  · rename_i c
    rw [Int.natCast_ediv]
    congr 1
    omega
/-! ### sizes -/
def Sz (k : Nat) (r : Rat) : Prop := r.num.natAbs < 2 ^ k ∧ r.den < 2 ^ k
theorem Sz.mono {j k : Nat} {r : Rat} (h : Sz j r) (l : j ≤ k) : Sz k r := ⟨Nat.lt_of_lt_of_le h.1 (Nat.pow_le_pow_right (by decide) l), Nat.lt_of_lt_of_le h.2 (Nat.pow_le_pow_right (by decide) l)⟩
theorem divInt_le {t u : Int} (h : u ≠ 0) : (divInt t u).num.natAbs ≤ t.natAbs ∧ (divInt t u).den ≤ u.natAbs := by
  constructor
  · rw [← top_of h, Int.fdiv_eq_ediv_of_dvd (dvd_t t u), Int.natAbs_ediv_of_dvd (dvd_t t u)]
    exact Nat.div_le_self ..
  · rw [Rat.den_divInt, if_neg h]
    exact Nat.div_le_self ..
theorem Sz.divInt {k : Nat} {t u : Int} (h : u ≠ 0) (ht : t.natAbs < 2 ^ k) (hu : u.natAbs < 2 ^ k) : Sz k (divInt t u) := ⟨Nat.lt_of_le_of_lt (divInt_le h).1 ht, Nat.lt_of_le_of_lt (divInt_le h).2 hu⟩
theorem Sz.int {k : Nat} {i : Int} (h : i.natAbs < 2 ^ k) (k0 : 0 < k) : Sz k (i : Rat) := ⟨h, Nat.one_lt_two_pow (by omega)⟩
theorem mul_lt {i j : Int} {a b : Nat} (ha : i.natAbs < 2 ^ a) (hb : j.natAbs < 2 ^ b) : (i * j).natAbs < 2 ^ (a + b) := by
  rw [Int.natAbs_mul, Nat.pow_add]
  exact Nat.mul_lt_mul'' ha hb
theorem add_lt {i j : Int} {a : Nat} (ha : i.natAbs < 2 ^ a) (hb : j.natAbs < 2 ^ a) : (i + j).natAbs < 2 ^ (a + 1) := by
  rw [Nat.pow_succ]
  omega
theorem sub_lt {i j : Int} {a : Nat} (ha : i.natAbs < 2 ^ a) (hb : j.natAbs < 2 ^ a) : (i - j).natAbs < 2 ^ (a + 1) := by
  rw [Nat.pow_succ]
  omega
theorem den_ne (r : Rat) : (r.den : Int) ≠ 0 := by
  have := r.den_pos
  omega
theorem two_ne (r s : Rat) : (r.den : Int) * (s.den : Int) ≠ 0 := Int.mul_ne_zero (den_ne r) (den_ne s)
/-! ### the operators, as they are reckoned -/
theorem add_of (r s : Rat) : divInt (r.num * s.den + s.num * r.den) (r.den * s.den) = r + s := by
  rw [Rat.add_def', ← Rat.divInt_ofNat, Int.natCast_mul]
theorem sub_of (r s : Rat) : divInt (r.num * s.den - s.num * r.den) (r.den * s.den) = r - s := by
  rw [Rat.sub_def', ← Rat.divInt_ofNat, Int.natCast_mul]
theorem mul_of (r s : Rat) : divInt (r.num * s.num) (r.den * s.den) = r * s := by
  rw [Rat.mul_def', ← Rat.divInt_ofNat, Int.natCast_mul]
theorem addI_of (r : Rat) (i : Int) : divInt (r.num + i * r.den) r.den = r + i := by
  rw [← add_of, Rat.den_intCast, Rat.num_intCast]
  simp
theorem subI_of (r : Rat) (i : Int) : divInt (r.num - i * r.den) r.den = r - i := by
  rw [← sub_of, Rat.den_intCast, Rat.num_intCast]
  simp
theorem rsubI_of (r : Rat) (i : Int) : divInt (i * r.den - r.num) r.den = (i : Rat) - r := by
  rw [← sub_of, Rat.den_intCast, Rat.num_intCast]
  simp
theorem mulI_of (r : Rat) (i : Int) : divInt (r.num * i) r.den = r * i := by
  rw [← mul_of, Rat.den_intCast, Rat.num_intCast]
  simp
theorem neg_of (r : Rat) : divInt (-r.num) r.den = -r := by
  rw [← Rat.neg_divInt, Rat.num_divInt_den]
theorem over_of (r s : Rat) : divInt (r.num * s.den) (r.den * s.num) = r / s := by
  rw [Rat.div_def, Rat.inv_def, ← Rat.divInt_mul_divInt, Rat.num_divInt_den]
theorem of_int (i : Int) : divInt i 1 = i := by
  rw [show (1 : Int) = ((1 : Nat) : Int) from rfl, Rat.divInt_ofNat]
  exact Rat.mkRat_self (i : Rat)
theorem Sz.add {a b : Nat} {r s : Rat} (hr : Sz a r) (hs : Sz b s) : Sz (a + b + 1) (r + s) := by
  rw [← add_of]
  refine Sz.divInt (two_ne r s) (add_lt (mul_lt hr.1 hs.2) ?_) (Nat.lt_of_lt_of_le (mul_lt hr.2 hs.2) (Nat.pow_le_pow_right (by decide) (by omega)))
  rw [Nat.add_comm]
  exact mul_lt hs.1 hr.2
theorem Sz.sub {a b : Nat} {r s : Rat} (hr : Sz a r) (hs : Sz b s) : Sz (a + b + 1) (r - s) := by
  rw [← sub_of]
  refine Sz.divInt (two_ne r s) (sub_lt (mul_lt hr.1 hs.2) ?_) (Nat.lt_of_lt_of_le (mul_lt hr.2 hs.2) (Nat.pow_le_pow_right (by decide) (by omega)))
  rw [Nat.add_comm]
  exact mul_lt hs.1 hr.2
theorem Sz.mul {a b : Nat} {r s : Rat} (hr : Sz a r) (hs : Sz b s) : Sz (a + b) (r * s) := by
  rw [← mul_of]
  exact Sz.divInt (two_ne r s) (mul_lt hr.1 hs.1) (mul_lt hr.2 hs.2)
theorem Sz.neg {a : Nat} {r : Rat} (hr : Sz a r) : Sz a (-r) := ⟨by rw [Rat.neg_num, Int.natAbs_neg]; exact hr.1, hr.2⟩
theorem Sz.div {a b : Nat} {r s : Rat} (hr : Sz a r) (hs : Sz b s) (h : s ≠ 0) : Sz (a + b) (r / s) := by
  rw [← over_of]
  refine Sz.divInt (Int.mul_ne_zero (den_ne r) fun e => h (Rat.num_eq_zero.mp e)) (mul_lt hr.1 hs.2) (mul_lt hr.2 hs.1)
/-! ### how laws ask: a top and a bottom, not in lowest terms -/
theorem same_of {r : Rat} {t u : Int} (h : u ≠ 0) : r.num * u = t * r.den ↔ r = divInt t u := by
  rw [← Rat.divInt_eq_divInt_iff (den_ne r) h, Rat.num_divInt_den]
theorem mk_add {t u v w : Int} (h : u ≠ 0) (k : w ≠ 0) : divInt t u + divInt v w = divInt (t * w + v * u) (u * w) := Rat.divInt_add_divInt _ _ h k
theorem mk_sub {t u v w : Int} (h : u ≠ 0) (k : w ≠ 0) : divInt t u - divInt v w = divInt (t * w - v * u) (u * w) := Rat.divInt_sub_divInt _ _ h k
theorem mk_mul {t u v w : Int} : divInt t u * divInt v w = divInt (t * v) (u * w) := Rat.divInt_mul_divInt _ _
theorem mk_div {t u v w : Int} : divInt t u / divInt v w = divInt (t * w) (u * v) := by
  rw [Rat.div_def, Rat.inv_divInt, mk_mul]
end Mx
namespace Mx
open Rat (divInt)
/-! ### the law's own common divisor: a thousand turns are enough -/
theorem twice {x y : Nat} (hy : 0 < y) (h : y ≤ x) : 2 * (x % y) ≤ x := by
  have h1 : x % y < y := Nat.mod_lt _ hy
  have h3 := Nat.div_add_mod x y
  have h4 : 1 ≤ x / y := Nat.div_pos h hy
  have h5 : y ≤ y * (x / y) := Nat.le_mul_of_pos_right _ h4
  omega
/-- what is left when i turns are done -/
def Low (k i x y : Nat) : Prop := (i = 0 ∧ y < 2 ^ k) ∨ (0 < i ∧ y < x ∧ x * y * 2 ^ (i - 1) < 2 ^ (2 * k))
theorem Low.step {k i x y : Nat} (hy : 0 < y) (h : Low k i x y) : Low k (i + 1) y (x % y) := by
  have h1 : x % y < y := Nat.mod_lt _ hy
  refine .inr ⟨by omega, h1, ?_⟩
  rcases h with ⟨rfl, h0⟩ | ⟨hi, hyx, h0⟩
  · rw [show 2 * k = k + k by omega, Nat.pow_add, show 0 + 1 - 1 = 0 from rfl, Nat.pow_zero, Nat.mul_one]
    exact Nat.mul_lt_mul'' h0 (by omega)
  · obtain ⟨j, rfl⟩ : ∃ j, i = j + 1 := ⟨i - 1, by omega⟩
    rw [Nat.add_sub_cancel] at h0 ⊢
    refine Nat.lt_of_le_of_lt ?_ h0
    have h2 := twice hy (Nat.le_of_lt hyx)
    rw [Nat.pow_succ]
    calc y * (x % y) * (2 ^ j * 2) = y * (2 * (x % y)) * 2 ^ j := by
          rw [Nat.mul_comm (2 ^ j) 2, ← Nat.mul_assoc, Nat.mul_assoc y, Nat.mul_comm (x % y) 2]
      _ ≤ y * x * 2 ^ j := Nat.mul_le_mul_right _ (Nat.mul_le_mul_left _ h2)
      _ = x * y * 2 ^ j := by rw [Nat.mul_comm y x]
theorem Low.last {k i x y : Nat} (hi : 2 * k < i) (h : Low k i x y) : y = 0 := by
  rcases h with ⟨rfl, _⟩ | ⟨h1, h2, h3⟩
  · omega
  · rcases Nat.eq_zero_or_pos y with e | e
    · exact e
    · exfalso
      have h4 : 2 ^ (2 * k) ≤ 2 ^ (i - 1) := Nat.pow_le_pow_right (by decide) (by omega)
      have h5 : 1 ≤ x * y := Nat.mul_pos (by omega) e
      have h6 : 2 ^ (i - 1) ≤ x * y * 2 ^ (i - 1) := Nat.le_mul_of_pos_left _ h5
      omega
/-! ### less, with signs -/
theorem le_of {t u v w : Int} (h : u ≠ 0) (k : w ≠ 0) : divInt v w ≤ divInt t u ↔ 0 ≤ (t * w - v * u) * (u * w) := by
  have p : 0 < (u * w) * (u * w) := by
    rcases Int.lt_or_gt_of_ne (Int.mul_ne_zero h k) with c | c
    · exact Int.mul_pos_of_neg_of_neg c c
    · exact Int.mul_pos c c
  rw [Rat.le_iff_sub_nonneg, mk_sub h k, ← Rat.divInt_mul_right (Int.mul_ne_zero h k), Rat.divInt_nonneg_iff_of_pos_right p]
theorem lt_of {t u v w : Int} (h : u ≠ 0) (k : w ≠ 0) : divInt t u < divInt v w ↔ (t * w - v * u) * (u * w) < 0 := by
  rw [← Rat.not_le, le_of h k, Int.not_le]
theorem lt_sign {t u v w : Int} (h : u ≠ 0) (k : w ≠ 0) : divInt t u < divInt v w ↔ t * w * (if u * w < 0 then -1 else 1) < v * u * (if u * w < 0 then -1 else 1) := by
  rw [lt_of h k]
  split
  · rename_i c
    refine ⟨fun z => ?_, fun z => Int.mul_neg_of_pos_of_neg (by omega) c⟩
    by_cases q : t * w - v * u ≤ 0
    · have := Int.mul_nonneg_of_nonpos_of_nonpos q (Int.le_of_lt c)
      omega
    · omega
  · rename_i c
    have c : 0 < u * w := by
      have := Int.mul_ne_zero h k
      omega
    refine ⟨fun z => ?_, fun z => Int.mul_neg_of_neg_of_pos (by omega) c⟩
    by_cases q : 0 ≤ t * w - v * u
    · have := Int.mul_nonneg q (Int.le_of_lt c)
      omega
    · omega
/-- numerators in lowest terms have no common part -/
theorem gcd_one (r : Rat) : Nat.gcd r.num.natAbs ((r.den : Int)).natAbs = 1 := r.reduced
end Mx

/-! Plain law: told reckonings (joins, products), what lies beneath what, the greatest ones. -/
namespace Mr
structure Rk (n : Nat) (J M : Nat → Nat → Nat) (z o : Nat) : Prop where
  n2 : 2 ≤ n
  n16 : n ≤ 16
  zn : z < n
  on : o < n
  ne : z ≠ o
  jn : ∀ a b, a < n → b < n → J a b < n
  mn : ∀ a b, a < n → b < n → M a b < n
  jz : ∀ a, a < n → J z a = a ∧ J a z = a
  mz : ∀ a, a < n → M z a = z ∧ M a z = z
  mo : ∀ a, a < n → M o a = a ∧ M a o = a
  idem : ∀ a, a < n → J a a = a
  swap : ∀ a b, a < n → b < n → J a b = J b a
  jass : ∀ a b c, a < n → b < n → c < n → J (J a b) c = J a (J b c)
  mass : ∀ a b c, a < n → b < n → c < n → M (M a b) c = M a (M b c)
  over : ∀ a b c, a < n → b < n → c < n → M a (J b c) = J (M a b) (M a c) ∧ M (J b c) a = J (M b a) (M c a)
/-- the join of a row of worths -/
def joined (J : Nat → Nat → Nat) (z : Nat) (xs : List Nat) : Nat := xs.foldl J z
theorem joined_lt {J : Nat → Nat → Nat} {n : Nat} (cl : ∀ a b, a < n → b < n → J a b < n) : ∀ {xs : List Nat} {z : Nat}, z < n → (∀ x ∈ xs, x < n) → joined J z xs < n
  | [], _, hz, _ => hz
  | x :: xs, _, hz, h => joined_lt cl (xs := xs) (cl _ _ hz (h x (List.mem_cons_self ..))) fun y m => h y (List.mem_cons_of_mem _ m)
def metF (n : Nat) (J : Nat → Nat → Nat) (z a b : Nat) : Nat := joined J z ((List.range n).filter fun x => decide (J x a = a) && decide (J x b = b))
def leftF (n : Nat) (J M : Nat → Nat → Nat) (z a c : Nat) : Nat := joined J z ((List.range n).filter fun b => decide (J (M a b) c = c))
def rightF (n : Nat) (J M : Nat → Nat → Nat) (z c a : Nat) : Nat := joined J z ((List.range n).filter fun b => decide (J (M b a) c = c))
def topF (n : Nat) (J : Nat → Nat → Nat) (z : Nat) : Nat := joined J z (List.range n)
section
variable {n : Nat} {J M : Nat → Nat → Nat} {z o : Nat}
theorem Rk.join_le (R : Rk n J M z o) {a b u : Nat} (ha : a < n) (hb : b < n) (hu : u < n) : J (J a b) u = u ↔ J a u = u ∧ J b u = u := by
  have one : ∀ {a b : Nat}, a < n → b < n → J (J a b) u = u → J a u = u := fun {a b} ha hb h => by
    have e : J a u = J a (J (J a b) u) := by rw [h]
    rw [e, R.jass a b u ha hb hu, ← R.jass a a _ ha ha (R.jn _ _ hb hu), R.idem a ha, ← R.jass a b u ha hb hu, h]
  refine ⟨fun h => ⟨one ha hb h, one hb ha ?_⟩, fun ⟨h1, h2⟩ => ?_⟩
  · rw [R.swap b a hb ha]
    exact h
  · rw [R.jass a b u ha hb hu, h2, h1]
theorem Rk.joined_le (R : Rk n J M z o) {u : Nat} (hu : u < n) : ∀ {xs : List Nat} {s : Nat}, s < n → (∀ x ∈ xs, x < n) → (J (joined J s xs) u = u ↔ J s u = u ∧ ∀ x ∈ xs, J x u = u)
  | [], s, hs, _ => ⟨fun h => ⟨h, fun x m => by cases m⟩, fun h => h.1⟩
  | x :: xs, s, hs, h => by
    have hx := h x (List.mem_cons_self ..)
    show J (joined J (J s x) xs) u = u ↔ _
    rw [Rk.joined_le R hu (R.jn s x hs hx) fun y m => h y (List.mem_cons_of_mem _ m), R.join_le hs hx hu]
    constructor
    · rintro ⟨⟨h1, h2⟩, h3⟩
      refine ⟨h1, fun y m => ?_⟩
      rcases List.mem_cons.mp m with rfl | m
      · exact h2
      · exact h3 y m
    · rintro ⟨h1, h2⟩
      exact ⟨⟨h1, h2 x (List.mem_cons_self ..)⟩, fun y m => h2 y (List.mem_cons_of_mem _ m)⟩
theorem Rk.tr (R : Rk n J M z o) {a b c : Nat} (ha : a < n) (hb : b < n) (hc : c < n) (h : J a b = b) (k : J b c = c) : J a c = c := by
  rw [← k, ← R.jass a b c ha hb hc, h]
theorem Rk.anti (R : Rk n J M z o) {a b : Nat} (ha : a < n) (hb : b < n) (h : J a b = b) (k : J b a = a) : a = b := by
  rw [← k, R.swap b a hb ha, h]
theorem Rk.same (R : Rk n J M z o) {x y : Nat} (hx : x < n) (hy : y < n) (h : ∀ w, w < n → (J w x = x ↔ J w y = y)) : x = y :=
  R.anti hx hy ((h x hx).mp (R.idem x hx)) ((h y hy).mpr (R.idem y hy))
theorem filt_lt {f : Nat → Bool} : ∀ x ∈ (List.range n).filter f, x < n := fun x m => List.mem_range.mp (List.mem_filter.mp m).1
theorem Rk.met_lt (R : Rk n J M z o) (a b : Nat) : metF n J z a b < n := joined_lt R.jn R.zn filt_lt
theorem Rk.left_lt (R : Rk n J M z o) (a b : Nat) : leftF n J M z a b < n := joined_lt R.jn R.zn filt_lt
theorem Rk.right_lt (R : Rk n J M z o) (a b : Nat) : rightF n J M z a b < n := joined_lt R.jn R.zn filt_lt
theorem Rk.top_lt (R : Rk n J M z o) : topF n J z < n := joined_lt R.jn R.zn fun x m => List.mem_range.mp m
theorem Rk.ub (R : Rk n J M z o) {xs : List Nat} (hx : ∀ x ∈ xs, x < n) {x : Nat} (m : x ∈ xs) : J x (joined J z xs) = joined J z xs := by
  have l := joined_lt R.jn R.zn hx
  exact ((R.joined_le l R.zn hx).mp (R.idem _ l)).2 x m
theorem Rk.top_le (R : Rk n J M z o) {x : Nat} (hx : x < n) : J x (topF n J z) = topF n J z := R.ub (fun y m => List.mem_range.mp m) (List.mem_range.mpr hx)
theorem Rk.met_iff (R : Rk n J M z o) {x a b : Nat} (hx : x < n) (ha : a < n) (hb : b < n) : J x (metF n J z a b) = metF n J z a b ↔ J x a = a ∧ J x b = b := by
  have l := R.met_lt a b
  constructor
  · intro h
    have h1 := (R.joined_le (xs := (List.range n).filter fun x => decide (J x a = a) && decide (J x b = b)) ha R.zn filt_lt).mpr ⟨(R.jz a ha).1, fun y m => by
      have := (List.mem_filter.mp m).2
      rw [Bool.and_eq_true, decide_eq_true_iff, decide_eq_true_iff] at this
      exact this.1⟩
    have h2 := (R.joined_le (xs := (List.range n).filter fun x => decide (J x a = a) && decide (J x b = b)) hb R.zn filt_lt).mpr ⟨(R.jz b hb).1, fun y m => by
      have := (List.mem_filter.mp m).2
      rw [Bool.and_eq_true, decide_eq_true_iff, decide_eq_true_iff] at this
      exact this.2⟩
    exact ⟨R.tr hx l ha h h1, R.tr hx l hb h h2⟩
  · rintro ⟨h1, h2⟩
    exact R.ub filt_lt (List.mem_filter.mpr ⟨List.mem_range.mpr hx, by rw [decide_eq_true h1, decide_eq_true h2]; rfl⟩)
theorem Rk.mul_joined (R : Rk n J M z o) {a c : Nat} (ha : a < n) (hc : c < n) : ∀ {xs : List Nat} {s : Nat}, s < n → (∀ x ∈ xs, x < n) → (J (M a (joined J s xs)) c = c ↔ J (M a s) c = c ∧ ∀ x ∈ xs, J (M a x) c = c)
  | [], s, hs, _ => ⟨fun h => ⟨h, fun x m => by cases m⟩, fun h => h.1⟩
  | x :: xs, s, hs, h => by
    have hx := h x (List.mem_cons_self ..)
    show J (M a (joined J (J s x) xs)) c = c ↔ _
    rw [Rk.mul_joined R ha hc (R.jn s x hs hx) fun y m => h y (List.mem_cons_of_mem _ m), (R.over a s x ha hs hx).1, R.join_le (R.mn _ _ ha hs) (R.mn _ _ ha hx) hc]
    constructor
    · rintro ⟨⟨h1, h2⟩, h3⟩
      refine ⟨h1, fun y m => ?_⟩
      rcases List.mem_cons.mp m with rfl | m
      · exact h2
      · exact h3 y m
    · rintro ⟨h1, h2⟩
      exact ⟨⟨h1, h2 x (List.mem_cons_self ..)⟩, fun y m => h2 y (List.mem_cons_of_mem _ m)⟩
theorem Rk.left_iff (R : Rk n J M z o) {b a c : Nat} (hb : b < n) (ha : a < n) (hc : c < n) : J b (leftF n J M z a c) = leftF n J M z a c ↔ J (M a b) c = c := by
  have l := R.left_lt a c
  constructor
  · intro h
    have h1 : J (M a (leftF n J M z a c)) c = c := (R.mul_joined (xs := (List.range n).filter fun b => decide (J (M a b) c = c)) ha hc R.zn filt_lt).mpr ⟨by rw [(R.mz a ha).2]; exact (R.jz c hc).1, fun y m => of_decide_eq_true (List.mem_filter.mp m).2⟩
    refine R.tr (R.mn _ _ ha hb) (R.mn _ _ ha l) hc ?_ h1
    rw [← (R.over a b _ ha hb l).1, h]
  · intro h
    exact R.ub filt_lt (List.mem_filter.mpr ⟨List.mem_range.mpr hb, decide_eq_true h⟩)
/-- the products the other way round -/
theorem Rk.turn (R : Rk n J M z o) : Rk n J (fun a b => M b a) z o :=
  { R with
    mn := fun a b ha hb => R.mn b a hb ha
    mz := fun a ha => (R.mz a ha).symm
    mo := fun a ha => (R.mo a ha).symm
    mass := fun a b c ha hb hc => (R.mass c b a hc hb ha).symm
    over := fun a b c ha hb hc => (R.over a b c ha hb hc).symm }
theorem right_turn (c a : Nat) : rightF n J M z c a = leftF n J (fun a b => M b a) z a c := rfl
theorem left_turn (a c : Nat) : leftF n J M z a c = rightF n J (fun a b => M b a) z c a := rfl
theorem Rk.right_iff (R : Rk n J M z o) {b a c : Nat} (hb : b < n) (ha : a < n) (hc : c < n) : J b (rightF n J M z c a) = rightF n J M z c a ↔ J (M b a) c = c := R.turn.left_iff hb ha hc
end
/-! ### two beside one another -/
section
variable {n m : Nat} {J M J' M' : Nat → Nat → Nat} {z o z' o' : Nat}
/-- part by part -/
def par (m : Nat) (F G : Nat → Nat → Nat) (a b : Nat) : Nat := F (a / m) (b / m) * m + G (a % m) (b % m)
theorem pd {m p q : Nat} (h : q < m) : (p * m + q) / m = p := by
  rw [Nat.mul_comm, Nat.mul_add_div (by omega), Nat.div_eq_of_lt h]
  rfl
theorem pm {m p q : Nat} (h : q < m) : (p * m + q) % m = q := by
  rw [Nat.mul_comm, Nat.mul_add_mod, Nat.mod_eq_of_lt h]
theorem pe {m p q r s : Nat} (h : q < m) (k : s < m) : p * m + q = r * m + s ↔ p = r ∧ q = s := by
  constructor
  · intro e
    have h1 := congrArg (· / m) e
    have h2 := congrArg (· % m) e
    simp only [pd h, pd k, pm h, pm k] at h1 h2
    exact ⟨h1, h2⟩
  · rintro ⟨rfl, rfl⟩
    rfl
theorem pl {n m p q : Nat} (h : p < n) (k : q < m) : p * m + q < n * m := by
  have : (p + 1) * m ≤ n * m := Nat.mul_le_mul_right m h
  rw [Nat.add_mul, Nat.one_mul] at this
  omega
theorem ps {n m a : Nat} (h : a < n * m) : a / m < n ∧ a % m < m ∧ a = a / m * m + a % m := by
  have m0 : 0 < m := by
    rcases Nat.eq_zero_or_pos m with e | e
    · rw [e] at h; omega
    · exact e
  exact ⟨(Nat.div_lt_iff_lt_mul m0).mpr h, Nat.mod_lt _ m0, by rw [Nat.mul_comm]; exact (Nat.div_add_mod a m).symm⟩
theorem Rk.beside (R : Rk n J M z o) (S : Rk m J' M' z' o') (h : n * m ≤ 16) : Rk (n * m) (par m J J') (par m M M') (z * m + z') (o * m + o') where
  n2 := Nat.le_trans (show 2 ≤ 2 * 2 by decide) (Nat.mul_le_mul R.n2 S.n2)
  n16 := h
  zn := pl R.zn S.zn
  on := pl R.on S.on
  ne e := R.ne ((pe S.zn S.on).mp e).1
  jn a b ha hb := pl (R.jn _ _ (ps ha).1 (ps hb).1) (S.jn _ _ (ps ha).2.1 (ps hb).2.1)
  mn a b ha hb := pl (R.mn _ _ (ps ha).1 (ps hb).1) (S.mn _ _ (ps ha).2.1 (ps hb).2.1)
  jz a ha := by
    obtain ⟨h1, h2, h3⟩ := ps ha
    have q := R.jz _ h1
    have q' := S.jz _ h2
    unfold par
    rw [pd S.zn, pm S.zn, q.1, q.2, q'.1, q'.2]
    exact ⟨h3.symm, h3.symm⟩
  mz a ha := by
    obtain ⟨h1, h2, h3⟩ := ps ha
    have q := R.mz _ h1
    have q' := S.mz _ h2
    unfold par
    rw [pd S.zn, pm S.zn, q.1, q.2, q'.1, q'.2]
    exact ⟨rfl, rfl⟩
  mo a ha := by
    obtain ⟨h1, h2, h3⟩ := ps ha
    have q := R.mo _ h1
    have q' := S.mo _ h2
    unfold par
    rw [pd S.on, pm S.on, q.1, q.2, q'.1, q'.2]
    exact ⟨h3.symm, h3.symm⟩
  idem a ha := by
    obtain ⟨h1, h2, h3⟩ := ps ha
    unfold par
    rw [R.idem _ h1, S.idem _ h2]
    exact h3.symm
  swap a b ha hb := by
    unfold par
    rw [R.swap _ _ (ps ha).1 (ps hb).1, S.swap _ _ (ps ha).2.1 (ps hb).2.1]
  jass a b c ha hb hc := by
    unfold par
    rw [pd (S.jn _ _ (ps ha).2.1 (ps hb).2.1), pm (S.jn _ _ (ps ha).2.1 (ps hb).2.1), pd (S.jn _ _ (ps hb).2.1 (ps hc).2.1), pm (S.jn _ _ (ps hb).2.1 (ps hc).2.1), R.jass _ _ _ (ps ha).1 (ps hb).1 (ps hc).1, S.jass _ _ _ (ps ha).2.1 (ps hb).2.1 (ps hc).2.1]
  mass a b c ha hb hc := by
    unfold par
    rw [pd (S.mn _ _ (ps ha).2.1 (ps hb).2.1), pm (S.mn _ _ (ps ha).2.1 (ps hb).2.1), pd (S.mn _ _ (ps hb).2.1 (ps hc).2.1), pm (S.mn _ _ (ps hb).2.1 (ps hc).2.1), R.mass _ _ _ (ps ha).1 (ps hb).1 (ps hc).1, S.mass _ _ _ (ps ha).2.1 (ps hb).2.1 (ps hc).2.1]
  over a b c ha hb hc := by
    have q := R.over _ _ _ (ps ha).1 (ps hb).1 (ps hc).1
    have q' := S.over _ _ _ (ps ha).2.1 (ps hb).2.1 (ps hc).2.1
    unfold par
    have l1 := S.jn _ _ (ps hb).2.1 (ps hc).2.1
    have l2 := S.mn _ _ (ps ha).2.1 (ps hb).2.1
    have l3 := S.mn _ _ (ps ha).2.1 (ps hc).2.1
    have l4 := S.mn _ _ (ps hb).2.1 (ps ha).2.1
    have l5 := S.mn _ _ (ps hc).2.1 (ps ha).2.1
    rw [pd l1, pm l1, pd l2, pm l2, pd l3, pm l3, pd l4, pm l4, pd l5, pm l5, q.1, q'.1, q.2, q'.2]
    exact ⟨rfl, rfl⟩
theorem par_le (S : Rk m J' M' z' o') {p q r s : Nat} (hq : q < m) (hs : s < m) : par m J J' (p * m + q) (r * m + s) = r * m + s ↔ J p r = r ∧ J' q s = s := by
  unfold par
  rw [pd hq, pm hq, pd hs, pm hs]
  exact pe (S.jn _ _ hq hs) hs
theorem Rk.beside_met (R : Rk n J M z o) (S : Rk m J' M' z' o') (h : n * m ≤ 16) {p q r s : Nat} (hp : p < n) (hq : q < m) (hr : r < n) (hs : s < m) :
    metF (n * m) (par m J J') (z * m + z') (p * m + q) (r * m + s) = metF n J z p r * m + metF m J' z' q s := by
  have B := R.beside S h
  refine B.same (B.met_lt _ _) (pl (R.met_lt _ _) (S.met_lt _ _)) fun w hw => ?_
  obtain ⟨h1, h2, h3⟩ := ps hw
  rw [B.met_iff hw (pl hp hq) (pl hr hs), h3, par_le S h2 hq, par_le S h2 hs, par_le S h2 (S.met_lt _ _), R.met_iff h1 hp hr, S.met_iff h2 hq hs]
  exact ⟨fun ⟨⟨a, b⟩, c, d⟩ => ⟨⟨a, c⟩, b, d⟩, fun ⟨⟨a, c⟩, b, d⟩ => ⟨⟨a, b⟩, c, d⟩⟩
theorem Rk.beside_left (R : Rk n J M z o) (S : Rk m J' M' z' o') (h : n * m ≤ 16) {p q r s : Nat} (hp : p < n) (hq : q < m) (hr : r < n) (hs : s < m) :
    leftF (n * m) (par m J J') (par m M M') (z * m + z') (p * m + q) (r * m + s) = leftF n J M z p r * m + leftF m J' M' z' q s := by
  have B := R.beside S h
  refine B.same (B.left_lt _ _) (pl (R.left_lt _ _) (S.left_lt _ _)) fun w hw => ?_
  obtain ⟨h1, h2, h3⟩ := ps hw
  rw [B.left_iff hw (pl hp hq) (pl hr hs)]
  have e : par m M M' (p * m + q) w = M p (w / m) * m + M' q (w % m) := by
    unfold par
    rw [pd hq, pm hq]
  rw [e, par_le S (S.mn _ _ hq h2) hs]
  conv => rhs; rw [h3]
  rw [par_le S h2 (S.left_lt _ _), R.left_iff h1 hp hr, S.left_iff h2 hq hs]
theorem Rk.beside_right (R : Rk n J M z o) (S : Rk m J' M' z' o') (h : n * m ≤ 16) {p q r s : Nat} (hp : p < n) (hq : q < m) (hr : r < n) (hs : s < m) :
    rightF (n * m) (par m J J') (par m M M') (z * m + z') (p * m + q) (r * m + s) = rightF n J M z p r * m + rightF m J' M' z' q s := by
  have B := R.beside S h
  refine B.same (B.right_lt _ _) (pl (R.right_lt _ _) (S.right_lt _ _)) fun w hw => ?_
  obtain ⟨h1, h2, h3⟩ := ps hw
  rw [B.right_iff hw (pl hr hs) (pl hp hq)]
  have e : par m M M' w (r * m + s) = M (w / m) r * m + M' (w % m) s := by
    unfold par
    rw [pd hs, pm hs]
  rw [e, par_le S (S.mn _ _ h2 hs) hq]
  conv => rhs; rw [h3]
  rw [par_le S h2 (S.right_lt _ _), R.right_iff h1 hr hp, S.right_iff h2 hs hq]
theorem Rk.beside_top (R : Rk n J M z o) (S : Rk m J' M' z' o') (h : n * m ≤ 16) : topF (n * m) (par m J J') (z * m + z') = topF n J z * m + topF m J' z' := by
  have B := R.beside S h
  refine B.same B.top_lt (pl R.top_lt S.top_lt) fun w hw => ?_
  obtain ⟨h1, h2, h3⟩ := ps hw
  refine ⟨fun _ => ?_, fun _ => B.top_le hw⟩
  conv => lhs; rw [h3]
  exact (par_le S h2 S.top_lt).mpr ⟨R.top_le h1, S.top_le h2⟩
end
/-! ### looked at by trying all -/
def rkB (n : Nat) (J M : Nat → Nat → Nat) (z o : Nat) : Bool :=
  decide (2 ≤ n) && decide (n ≤ 16) && decide (z < n) && decide (o < n) && decide (z ≠ o) &&
  ((List.range n).all fun a => decide (J z a = a) && decide (J a z = a) && decide (M z a = z) && decide (M a z = z) && decide (M o a = a) && decide (M a o = a) && decide (J a a = a) &&
    (List.range n).all fun b => decide (J a b < n) && decide (M a b < n) && decide (J a b = J b a) &&
      (List.range n).all fun c => decide (J (J a b) c = J a (J b c)) && decide (M (M a b) c = M a (M b c)) && decide (M a (J b c) = J (M a b) (M a c)) && decide (M (J b c) a = J (M b a) (M c a)))
theorem rk_of {n : Nat} {J M : Nat → Nat → Nat} {z o : Nat} (h : rkB n J M z o = true) : Rk n J M z o := by
  unfold rkB at h
  simp only [Bool.and_eq_true, decide_eq_true_iff, List.all_eq_true, List.mem_range] at h
  obtain ⟨⟨⟨⟨⟨h1, h2⟩, h3⟩, h4⟩, h5⟩, h⟩ := h
  exact {
    n2 := h1, n16 := h2, zn := h3, on := h4, ne := h5
    jn := fun a b ha hb => ((h a ha).2 b hb).1.1.1
    mn := fun a b ha hb => ((h a ha).2 b hb).1.1.2
    jz := fun a ha => ⟨(h a ha).1.1.1.1.1.1.1, (h a ha).1.1.1.1.1.1.2⟩
    mz := fun a ha => ⟨(h a ha).1.1.1.1.1.2, (h a ha).1.1.1.1.2⟩
    mo := fun a ha => ⟨(h a ha).1.1.1.2, (h a ha).1.1.2⟩
    idem := fun a ha => (h a ha).1.2
    swap := fun a b ha hb => ((h a ha).2 b hb).1.2
    jass := fun a b c ha hb hc => (((h a ha).2 b hb).2 c hc).1.1.1
    mass := fun a b c ha hb hc => (((h a ha).2 b hb).2 c hc).1.1.2
    over := fun a b c ha hb hc => ⟨(((h a ha).2 b hb).2 c hc).1.2, (((h a ha).2 b hb).2 c hc).2⟩ }
/-! ### the chains and the lots that are drawn -/
def tabF (t : List (List Nat)) (a b : Nat) : Nat := (t.getD a []).getD b 0
def sp4 : List (List Nat) := [[0, 0, 0, 0], [0, 0, 1, 1], [0, 0, 2, 2], [0, 1, 2, 3]]
def yes2 : List (List Nat) := [[0, 0], [0, 1]]
def tmF (k n a b : Nat) : Nat := if k = 0 then min a b else if k = 1 then a + b - (n - 1) else min a b * (if a = n - 1 ∨ b = n - 1 then 1 else 0)
def mx (a b : Nat) : Nat := max a b
theorem chain_ok : ∀ k, k < 3 → ∀ n, 2 ≤ n → n ≤ 5 → Rk n mx (tmF k n) 0 (n - 1) := by
  have h : ∀ k, k < 3 → ∀ n, n < 6 → 2 ≤ n → rkB n mx (tmF k n) 0 (n - 1) = true := by decide +kernel
  exact fun k hk n h2 h5 => rk_of (h k hk n (by omega) h2)
theorem sp4_ok : Rk 4 mx (tabF sp4) 0 3 := rk_of (by decide +kernel)
theorem yes_ok : Rk 2 mx (tabF yes2) 0 1 := rk_of (by decide +kernel)
def bitB (lot k : Nat) : Bool := decide (lot / 2 ^ k % 2 = 1)
def things (lot m : Nat) : List Nat := (List.range m).filter (bitB lot)
def lotF (P : Nat → Nat → Nat) (m a b : Nat) : Nat := (things a m).foldl (fun f x => (things b m).foldl (fun f y => f ||| 2 ^ P x y) f) 0
def lotL (P : Nat → Nat → Nat) (m a c : Nat) : Nat := (List.range m).foldl (fun f x => if ((List.range m).all fun y => bitB c (P y x) || !bitB a y) = true then f ||| 2 ^ x else f) 0
def lotR (P : Nat → Nat → Nat) (m a c : Nat) : Nat := (List.range m).foldl (fun f x => if ((List.range m).all fun y => bitB c (P x y) || !bitB a y) = true then f ||| 2 ^ x else f) 0
def orF (a b : Nat) : Nat := a ||| b
def andF (a b : Nat) : Nat := a &&& b
def t7 : List (List (List Nat) × Nat) := [([[0, 1], [1, 1]], 0), ([[0, 1], [1, 0]], 0), ([[0, 0], [0, 1]], 1), ([[0, 1, 2], [1, 1, 1], [2, 2, 2]], 0), ([[0, 1, 2], [1, 1, 2], [2, 1, 2]], 0), ([[0, 0, 0], [0, 1, 2], [2, 2, 2]], 1), ([[0, 1, 2], [1, 2, 0], [2, 0, 1]], 0)]
def monB (P : Nat → Nat → Nat) (m o : Nat) : Bool := decide (1 ≤ m) && decide (m ≤ 3) && decide (o < m) && (List.range m).all fun a => decide (P o a = a) && decide (P a o = a) && (List.range m).all fun b => decide (P a b < m) && (List.range m).all fun c => decide (P (P a b) c = P a (P b c))
def lotsB (P : Nat → Nat → Nat) (m o : Nat) : Bool := monB P m o && rkB (2 ^ m) orF (lotF P m) 0 (2 ^ o) && decide (topF (2 ^ m) orF 0 = 2 ^ m - 1) &&
  (List.range (2 ^ m)).all fun a => (List.range (2 ^ m)).all fun c => decide (metF (2 ^ m) orF 0 a c = andF a c) && decide (leftF (2 ^ m) orF (lotF P m) 0 a c = lotL P m a c) && decide (rightF (2 ^ m) orF (lotF P m) 0 c a = lotR P m a c) && (decide (orF a c = c) == decide (andF a c = a))
theorem lots_all : ∀ e ∈ t7, lotsB (tabF e.1) e.1.length e.2 = true := by decide +kernel
/-- what holds of the lots of a drawn monoid -/
structure Lots (P : Nat → Nat → Nat) (m o : Nat) : Prop where
  m1 : 1 ≤ m
  m3 : m ≤ 3
  om : o < m
  one : ∀ a, a < m → P o a = a ∧ P a o = a
  cl : ∀ a b, a < m → b < m → P a b < m
  ass : ∀ a b c, a < m → b < m → c < m → P (P a b) c = P a (P b c)
  rk : Rk (2 ^ m) orF (lotF P m) 0 (2 ^ o)
  top : topF (2 ^ m) orF 0 = 2 ^ m - 1
  met : ∀ a c, a < 2 ^ m → c < 2 ^ m → metF (2 ^ m) orF 0 a c = andF a c
  lef : ∀ a c, a < 2 ^ m → c < 2 ^ m → leftF (2 ^ m) orF (lotF P m) 0 a c = lotL P m a c
  rig : ∀ a c, a < 2 ^ m → c < 2 ^ m → rightF (2 ^ m) orF (lotF P m) 0 c a = lotR P m a c
  bel : ∀ a c, a < 2 ^ m → c < 2 ^ m → (orF a c = c ↔ andF a c = a)
theorem lots_of {P : Nat → Nat → Nat} {m o : Nat} (h : lotsB P m o = true) : Lots P m o := by
  unfold lotsB monB at h
  simp only [Bool.and_eq_true, decide_eq_true_iff, List.all_eq_true, List.mem_range, beq_iff_eq] at h
  obtain ⟨⟨⟨⟨⟨⟨h1, h2⟩, h3⟩, h4⟩, h5⟩, h6⟩, h7⟩ := h
  exact {
    m1 := h1, m3 := h2, om := h3
    one := fun a ha => (h4 a ha).1
    cl := fun a b ha hb => ((h4 a ha).2 b hb).1
    ass := fun a b c ha hb hc => ((h4 a ha).2 b hb).2 c hc
    rk := rk_of h5, top := h6
    met := fun a c ha hc => (h7 a ha c hc).1.1.1
    lef := fun a c ha hc => (h7 a ha c hc).1.1.2
    rig := fun a c ha hc => (h7 a ha c hc).1.2
    bel := fun a c ha hc => by
      have := (h7 a ha c hc).2
      exact decide_eq_decide.mp this }
end Mr

/-! Plain law: worths named anew; the one above all; lots gone through thing by thing. -/
namespace Ms
open Mr
variable {n : Nat} {J M : Nat → Nat → Nat} {z o : Nat}
/-- f with the worth a called p a -/
def nm (p q : Nat → Nat) (f : Nat → Nat → Nat) (a b : Nat) : Nat := p (f (q a) (q b))
theorem named (R : Rk n J M z o) {p q : Nat → Nat} (hp : ∀ a, a < n → p a < n) (hq : ∀ a, a < n → q a < n) (pq : ∀ a, a < n → p (q a) = a) (qp : ∀ a, a < n → q (p a) = a) :
    Rk n (nm p q J) (nm p q M) (p z) (p o) where
  n2 := R.n2
  n16 := R.n16
  zn := hp _ R.zn
  on := hp _ R.on
  ne e := R.ne (by rw [← qp z R.zn, ← qp o R.on, e])
  jn a b ha hb := hp _ (R.jn _ _ (hq a ha) (hq b hb))
  mn a b ha hb := hp _ (R.mn _ _ (hq a ha) (hq b hb))
  jz a ha := by
    have := R.jz _ (hq a ha)
    unfold nm
    rw [qp z R.zn, this.1, this.2, pq a ha]
    exact ⟨rfl, rfl⟩
  mz a ha := by
    have := R.mz _ (hq a ha)
    unfold nm
    rw [qp z R.zn, this.1, this.2]
    exact ⟨rfl, rfl⟩
  mo a ha := by
    have := R.mo _ (hq a ha)
    unfold nm
    rw [qp o R.on, this.1, this.2, pq a ha]
    exact ⟨rfl, rfl⟩
  idem a ha := by
    unfold nm
    rw [R.idem _ (hq a ha), pq a ha]
  swap a b ha hb := by
    unfold nm
    rw [R.swap _ _ (hq a ha) (hq b hb)]
  jass a b c ha hb hc := by
    unfold nm
    rw [qp _ (R.jn _ _ (hq a ha) (hq b hb)), qp _ (R.jn _ _ (hq b hb) (hq c hc)), R.jass _ _ _ (hq a ha) (hq b hb) (hq c hc)]
  mass a b c ha hb hc := by
    unfold nm
    rw [qp _ (R.mn _ _ (hq a ha) (hq b hb)), qp _ (R.mn _ _ (hq b hb) (hq c hc)), R.mass _ _ _ (hq a ha) (hq b hb) (hq c hc)]
  over a b c ha hb hc := by
    have h := R.over _ _ _ (hq a ha) (hq b hb) (hq c hc)
    unfold nm
    rw [qp _ (R.jn _ _ (hq b hb) (hq c hc)), qp _ (R.mn _ _ (hq a ha) (hq b hb)), qp _ (R.mn _ _ (hq a ha) (hq c hc)), qp _ (R.mn _ _ (hq b hb) (hq a ha)), qp _ (R.mn _ _ (hq c hc) (hq a ha)), h.1, h.2]
    exact ⟨rfl, rfl⟩
/-- a row that names all below n, each once -/
structure Ord (n : Nat) (xs : List Nat) : Prop where
  len : xs.length = n
  nd : xs.Nodup
  lt : ∀ x ∈ xs, x < n
  all : ∀ x, x < n → x ∈ xs
theorem ord_of {n : Nat} {xs : List Nat} (h : xs.Perm (List.range n)) : Ord n xs where
  len := by rw [h.length_eq, List.length_range]
  nd := h.nodup_iff.mpr List.nodup_range
  lt x m := List.mem_range.mp (h.mem_iff.mp m)
  all x hx := h.mem_iff.mpr (List.mem_range.mpr hx)
def atF (xs : List Nat) (i : Nat) : Nat := xs.getD i 0
theorem atF_eq {xs : List Nat} {i : Nat} (h : i < xs.length) : xs[i]? = some (atF xs i) := by
  unfold atF
  rw [List.getD_eq_getElem?_getD, List.getElem?_eq_getElem h]
  rfl
theorem ord_p {xs : List Nat} (O : Ord n xs) : ∀ a, a < n → atF xs a < n := fun a ha => O.lt _ (List.mem_of_getElem? (atF_eq (by rw [O.len]; exact ha)))
theorem ord_q {xs : List Nat} (O : Ord n xs) : ∀ a, a < n → xs.idxOf a < n := fun a ha => by
  have := List.idxOf_lt_length_iff.mpr (O.all a ha)
  rwa [O.len] at this
theorem ord_pq {xs : List Nat} (O : Ord n xs) : ∀ a, a < n → atF xs (xs.idxOf a) = a := fun a ha => by
  have l := List.idxOf_lt_length_iff.mpr (O.all a ha)
  have := atF_eq l
  rw [List.getElem?_eq_getElem l, List.getElem_idxOf l] at this
  exact (Option.some.inj this).symm
theorem ord_qp {xs : List Nat} (O : Ord n xs) : ∀ a, a < n → xs.idxOf (atF xs a) = a := fun a ha => by
  have l : a < xs.length := by rw [O.len]; exact ha
  have h1 := atF_eq l
  rw [List.getElem?_eq_getElem l] at h1
  rw [← Option.some.inj h1]
  exact List.Nodup.idxOf_getElem O.nd a l
theorem renamed (R : Rk n J M z o) {xs : List Nat} (O : Ord n xs) : Rk n (nm (atF xs) (xs.idxOf ·) J) (nm (atF xs) (xs.idxOf ·) M) (atF xs z) (atF xs o) :=
  named R (ord_p O) (ord_q O) (ord_pq O) (ord_qp O)
/-! ### the one above all -/
theorem left_mem (R : Rk n J M z o) {a c : Nat} (ha : a < n) (hc : c < n) : leftF n J M z a c ∈ (List.range n).filter fun b => decide (J (M a b) c = c) :=
  List.mem_filter.mpr ⟨List.mem_range.mpr (R.left_lt a c), decide_eq_true ((R.left_iff (R.left_lt a c) ha hc).mp (R.idem _ (R.left_lt a c)))⟩
theorem left_top (R : Rk n J M z o) {a c : Nat} (ha : a < n) (hc : c < n) : ∀ x ∈ (List.range n).filter fun b => decide (J (M a b) c = c), J x (leftF n J M z a c) = leftF n J M z a c := fun x m =>
  (R.left_iff (filt_lt x m) ha hc).mpr (of_decide_eq_true (List.mem_filter.mp m).2)
theorem right_mem (R : Rk n J M z o) {a c : Nat} (ha : a < n) (hc : c < n) : rightF n J M z c a ∈ (List.range n).filter fun b => decide (J (M b a) c = c) := left_mem R.turn ha hc
theorem right_top (R : Rk n J M z o) {a c : Nat} (ha : a < n) (hc : c < n) : ∀ x ∈ (List.range n).filter fun b => decide (J (M b a) c = c), J x (rightF n J M z c a) = rightF n J M z c a := left_top R.turn ha hc
theorem met_mem (R : Rk n J M z o) {a b : Nat} (ha : a < n) (hb : b < n) : metF n J z a b ∈ (List.range n).filter fun x => decide (J x a = a) && decide (J x b = b) := by
  have h := (R.met_iff (R.met_lt a b) ha hb).mp (R.idem _ (R.met_lt a b))
  exact List.mem_filter.mpr ⟨List.mem_range.mpr (R.met_lt a b), by rw [decide_eq_true h.1, decide_eq_true h.2]; rfl⟩
theorem met_top (R : Rk n J M z o) {a b : Nat} (ha : a < n) (hb : b < n) : ∀ x ∈ (List.range n).filter fun x => decide (J x a = a) && decide (J x b = b), J x (metF n J z a b) = metF n J z a b := fun x m => by
  have h := (List.mem_filter.mp m).2
  rw [Bool.and_eq_true, decide_eq_true_iff, decide_eq_true_iff] at h
  exact (R.met_iff (filt_lt x m) ha hb).mpr h
/-! ### lots -/
theorem lot_eq (P : Nat → Nat → Nat) (m a b : Nat) : lotF P m a b = (List.range m).foldl (fun f x => (List.range m).foldl (fun f y => if bitB a x = true ∧ bitB b y = true then f ||| 2 ^ P x y else f) f) 0 := by
  unfold lotF things
  rw [List.foldl_filter]
  congr 1
  funext f x
  rw [List.foldl_filter]
  by_cases h : bitB a x = true
  · rw [if_pos h]
    congr 1
    funext f y
    by_cases k : bitB b y = true
    · rw [if_pos k, if_pos ⟨h, k⟩]
    · rw [if_neg k, if_neg fun e => k e.2]
  · rw [if_neg h]
    have : ∀ (l : List Nat) (f : Nat), l.foldl (fun f y => if bitB a x = true ∧ bitB b y = true then f ||| 2 ^ P x y else f) f = f := by
      intro l
      induction l with
      | nil => intro f; rfl
      | cons y l ih =>
        intro f
        rw [List.foldl_cons, if_neg fun e => h e.1]
        exact ih f
    exact (this _ f).symm
end Ms

/-! Plain law: the widths (joins the greater, products the lesser one). -/
namespace Mr
def mn (a b : Nat) : Nat := min a b
theorem mx_le {a b : Nat} : mx a b = b ↔ a ≤ b := by unfold mx; omega
theorem wid_ok {n : Nat} (h : 2 ≤ n) (h1 : n ≤ 16) : Rk n mx mn 0 (n - 1) where
  n2 := h
  n16 := h1
  zn := by omega
  on := by omega
  ne := by omega
  jn a b ha hb := by unfold mx; omega
  mn a b ha hb := by unfold Mr.mn; omega
  jz a ha := by unfold mx; omega
  mz a ha := by unfold Mr.mn; omega
  mo a ha := by unfold Mr.mn; omega
  idem a ha := by unfold mx; omega
  swap a b ha hb := by unfold mx; omega
  jass a b c ha hb hc := by unfold mx; omega
  mass a b c ha hb hc := by unfold Mr.mn; omega
  over a b c ha hb hc := by unfold mx Mr.mn; omega
theorem wid_met {n a b : Nat} (h : 2 ≤ n) (h1 : n ≤ 16) (ha : a < n) (hb : b < n) : metF n mx 0 a b = min a b := by
  have R := wid_ok h h1
  refine R.same (R.met_lt a b) (by omega) fun w hw => ?_
  rw [R.met_iff hw ha hb, mx_le, mx_le, mx_le]
  omega
theorem wid_left {n a c : Nat} (h : 2 ≤ n) (h1 : n ≤ 16) (ha : a < n) (hc : c < n) : leftF n mx mn 0 a c = if a ≤ c then n - 1 else c := by
  have R := wid_ok h h1
  refine R.same (R.left_lt a c) (by split <;> omega) fun w hw => ?_
  rw [R.left_iff hw ha hc, mx_le, mx_le]
  unfold Mr.mn
  split <;> omega
theorem wid_right {n a c : Nat} (h : 2 ≤ n) (h1 : n ≤ 16) (ha : a < n) (hc : c < n) : rightF n mx mn 0 c a = if a ≤ c then n - 1 else c := by
  rw [right_turn, show (fun a b => mn b a) = mn from funext fun a => funext fun b => Nat.min_comm b a]
  exact wid_left h h1 ha hc
end Mr

/-! Sorting of data of any depth, and by an own key function. -/
namespace Rs
open PySem PySem.W PyProof.Rows
theorem nsOne {h : Heap} {L : Addr} {m m' : Str → Option Value} : h.Ns L m → h.Ns L m' → m = m' := by
  rintro ⟨o, es, ep, e, d, _, r⟩ ⟨o', es', ep', e', d', _, r'⟩
  have : o = o' := Option.some.inj (e.symm.trans e')
  subst this
  rw [d] at d'
  injection d' with d1 d2
  subst d1
  funext x
  exact (r x).symm.trans (r' x)
theorem each_split {α β γ : Type} {R : α → γ → Prop} {S : γ → β → Prop} : ∀ {as : List α} {bs : List β}, EachIs (fun a b => ∃ c, R a c ∧ S c b) as bs → ∃ cs : List γ, EachIs R as cs ∧ EachIs S cs bs
  | _, _, .nil => ⟨[], .nil, .nil⟩
  | _, _, .cons ⟨c, h1, h2⟩ t => let ⟨cs, q1, q2⟩ := each_split t; ⟨c :: cs, .cons h1 q1, .cons h2 q2⟩
theorem each_get {α β : Type} {R : α → β → Prop} : ∀ {as : List α} {bs : List β}, EachIs R as bs → ∀ {i : Nat} {a : α}, as[i]? = some a → ∃ b, bs[i]? = some b ∧ R a b
  | _, _, .nil, _, _, h => by simp at h
  | _, _, .cons h t, 0, _, e => by
    simp at e
    subst e
    exact ⟨_, rfl, h⟩
  | _, _, .cons h t, i + 1, _, e => each_get t (i := i) (by simpa using e)
end Rs
namespace Rs
open PySem PySem.Spec PyProof.Rows L2 PySem.W
theorem each_vals {R : V → β → Prop} : ∀ {xs : List V} {us : List Value} {bs : List β}, Vals xs us → EachIs R xs bs → EachIs (fun u b => ∃ x, RelV x u ∧ R x b) us bs
  | _, _, _, .nil, .nil => .nil
  | _, _, _, .cons r rr, .cons h t => .cons ⟨_, r, h⟩ (each_vals rr t)
theorem vals_each {R : V → β → Prop} : ∀ {us : List Value} {bs : List β}, EachIs (fun u b => ∃ x, RelV x u ∧ R x b) us bs → ∃ xs : List V, Vals xs us ∧ EachIs R xs bs
  | _, _, .nil => ⟨[], .nil, .nil⟩
  | _, _, .cons ⟨x, r, h⟩ t => let ⟨xs, q1, q2⟩ := vals_each t; ⟨x :: xs, .cons r q1, .cons h q2⟩
/-- what is asked of the keys: alike, all tuples with an item or none a tuple, not deep -/
structure Keys (ds : List PyData) : Prop where
  al : AllAlike ds
  so : Sortable ds
  dp : ∀ d ∈ ds, d.depth ≤ 50
section
variable {X : Cx}
/-- sorted(xs), data of any depth -/
def rSortD (K : PySem.W.Frag) : List V → Hp → VK → Prop := fun vs H Q => ∃ (a : Addr) (xs : List V) (β : Type) (bs : List β) (k : β → PyData) (R : V → β → Prop), vs = [V.ref a] ∧ SqL K H a xs ∧ EachIs (fun x b => Dp K H x (k b) ∧ R x b) xs bs ∧ Keys (bs.map k) ∧
  ∀ (out : List V) (p : Addr) (G : Hp), EachIs (fun x b => Dp K H x (k b) ∧ R x b) out (bs.mergeSort (dataLe false k)) → H p = none → G p = some (.lst out) → Same H G → Q (.ref p) G
theorem cr_sortD (hu : X.A.units + 64 < cLine) : CallR X (.builtin "sorted") (rSortD X.K) := by
  intro pins s σ H vs us Q I r h
  obtain ⟨a, xs, β, bs, k, R, rfl, hs, he, hk, q⟩ := h
  obtain ⟨its, rv, hl, hz⟩ := I.list hs
  obtain rfl := Vals.ref1 r
  have hz' : its.length ≤ sizeLine := by rw [← rv.length]; exact hz
  have h1 : EachIs (fun u b => ∃ x, RelV x u ∧ (Dp X.K H x (k b) ∧ R x b)) its bs := each_vals rv he
  have h2 : EachIs (fun u b => ∃ as, Reads s.heap u (k b) as) its bs := h1.mono fun u b ⟨x, rx, hx, _⟩ => Dp.reads I (k b) x u hx rx
  have h3 : EachIs (fun u d => ∃ as, Reads (sortingHeap (copyHeap s.heap its) (s.heap.objs.size + 1) its) u d as) its (bs.map k) := by
    have : ∀ {as : List Value} {bs : List β}, EachIs (fun u b => ∃ as, Reads s.heap u (k b) as) as bs → EachIs (fun u d => ∃ as, Reads (sortingHeap (copyHeap s.heap its) (s.heap.objs.size + 1) its) u d as) as (bs.map k) := by
      intro as bs h
      induction h with
      | nil => exact .nil
      | cons h _ ih =>
        obtain ⟨as, r⟩ := h
        exact .cons ⟨as, PyProof.Rows.Reads.keeps (fun b o e => sorting_copy_old e) r⟩ ih
    exact this h2
  have SA : SortsAt X.prog X.w X.A.in1.in1 { s with heap := sortingHeap (copyHeap s.heap its) (s.heap.objs.size + 1) its } (dataKind (sortingHeap (copyHeap s.heap its) (s.heap.objs.size + 1) its) (bs.map k)) its := SortsAt.data (s := { s with heap := sortingHeap (copyHeap s.heap its) (s.heap.objs.size + 1) its }) h3 hk.al hk.so fun d hd => by
    have := hk.dp d hd
    simp only [units_in1]
    omega
  refine sorted_vals hl.isList SA hz' ?_
  have out := sortVals_each (κ := dataKind (sortingHeap (copyHeap s.heap its) (s.heap.objs.size + 1) its) (bs.map k)) (rev := false) (fun b => keyToks (k b)) h1 (each_of_map k (each_keys hk.al h3))
  obtain ⟨ys, ry, hy⟩ := vals_each out
  obtain ⟨ep, he'⟩ := PyProof.Rows.sortedAll_at s.heap its (sortVals (dataKind (sortingHeap (copyHeap s.heap its) (s.heap.objs.size + 1) its) (bs.map k)) false its its).toArray
  have hlen : ys.length ≤ sizeLine := by
    rw [ry.length, sortVals_length false rfl]
    exact hz'
  have hf := I.hok.fresh (Nat.le_succ s.heap.objs.size)
  exact ⟨.ref _, upd H (s.heap.objs.size + 1) (.lst ys), I.laid (t' := s.toks) (fun _ _ => PyProof.Rows.sortedAll_old) (Nat.le_succ _) ⟨hlen, _, ep, ry, he'⟩, rfl, q ys _ _ hy hf upd_same (Rd.same_upd hf)⟩
end
end Rs
namespace Rs
open PySem PySem.Spec PyProof.Rows L2 PySem.W
theorem room2 {k : Nat} {A : Around} (r : Room (k + 1) A) : Room k A.in1.in1 :=
  ⟨r.hd, by have := r.dp; show A.depth + 3 * k + 5 < _; omega, by have := r.un; show A.units + 1 + 1 + 16 * k + 200 < _; omega⟩
theorem each_imp {α β : Type} {R S : α → β → Prop} (h : ∀ a b, R a b → S a b) : ∀ {as : List α} {bs : List β}, EachIs R as bs → EachIs S as bs
  | _, _, .nil => .nil
  | _, _, .cons q t => .cons (h _ _ q) (each_imp h t)
theorem each_reads {X : Cx} {pins : List (Addr × Obj)} {σ : L2.St} {H : Hp} {s : Shared} (I : Inv X pins σ H s) {β : Type} {k : β → PyData} : ∀ {us : List Value} {vs : List V} {bs : List β}, Vals vs us → EachIs (fun x b => Dp X.K H x (k b)) vs bs → EachIs (fun u d => ∃ as, Reads s.heap u d as) us (bs.map k)
  | _, _, _, .nil, .nil => .nil
  | _, _, _, .cons r rr, .cons h t => .cons (Dp.reads I _ _ _ h r) (each_reads I rr t)
mutual
theorem Dp.same {K : PySem.W.Frag} {H H' : Hp} (s : Same H H') : ∀ (d : PyData) (v : V), Dp K H v d → Dp K H' v d
  | .none, _, h => by cases h; exact .non
  | .bool b, _, h => by cases h; exact .bl b
  | .int i, _, h => by cases h; exact .int i
  | .str x, _, h => by cases h; exact .str x
  | .list ds, _, h => by
    cases h with
    | lst hs ha => exact .lst (s.seq hs) (Dp.sameAll s ds _ ha)
  | .tuple ds, _, h => by
    cases h with
    | tup hs ha => exact .tup (Ru.same_tup s hs) (Dp.sameAll s ds _ ha)
  | .dict _, _, h => by cases h
theorem Dp.sameAll {K : PySem.W.Frag} {H H' : Hp} (s : Same H H') : ∀ (ds : List PyData) (vs : List V), DpAll K H vs ds → DpAll K H' vs ds
  | [], _, h => by cases h; exact .nil
  | d :: ds, _, h => by
    cases h with
    | cons h1 h2 => exact .cons (Dp.same s d _ h1) (Dp.sameAll s ds _ h2)
end
theorem each_snocK {β : Type} {R : V → β → Prop} {x : V} {y : β} (hxy : R x y) : ∀ {as : List V} {bs : List β}, EachIs R as bs → EachIs R (as ++ [x]) (bs ++ [y])
  | _, _, .nil => .cons hxy .nil
  | _, _, .cons h t => .cons h (each_snocK hxy t)
def rSortK (f : Addr) (sp : Sp) (K : PySem.W.Frag) : List V → List V → Hp → VK → Prop := fun vs zs H Q => ∃ (a : Addr) (xs : List V) (β : Type) (bs : List β) (k : β → PyData) (R : V → β → Prop), vs = [V.ref a] ∧ zs = [V.ref f] ∧ SqL K H a xs ∧ EachIs R xs bs ∧ Keys (bs.map k) ∧
  (∀ x b H1, Same H H1 → b ∈ bs → R x b → sp [x] H1 (fun v H2 => Same H1 H2 ∧ Dp K H2 v (k b)) (fun _ _ _ => False)) ∧
  ∀ (out : List V) (p : Addr) (G : Hp), EachIs R out (bs.mergeSort (dataLe false k)) → H p = none → G p = some (.lst out) → Same H G → Q (.ref p) G
section
variable {X : Cx} {f : Addr} {fd : FuncData} {ps : List Str} {sp : Sp} {k : Nat}
theorem cr_sortK (F : FnOk X.prog X.w X.K X.mg X.base CX0 k f fd ps sp) (hr : Room (k + 1) X.A) (hb : Binds X.K fd ps []) : CallRK X (.builtin "sorted") [Str.ofString "key"] (rSortK f sp X.K) := by
  intro pins s σ H vs zs us ws Q I r rz h
  obtain ⟨a, xs, β, bs, key, R, rfl, rfl, hs, he, hk, hkey, q⟩ := h
  obtain ⟨its, rv, hl, hz⟩ := I.list hs
  obtain rfl := Vals.ref1 r
  obtain rfl := Vals.ref1 rz
  have hz' : its.length ≤ sizeLine := by rw [← rv.length]; exact hz
  have hbl : its.length = bs.length := by rw [← rv.length, he.length]
  refine sorted_of_sort hl.isList hz' (ksk_s1 _ _) (fun _ => ksk_l1 _ _) fun E' => ?_
  show wpAny _ _ (Builtin.«list.sort» ⟨[.ref (s.heap.objs.size + 1)], [(Str.ofString "key", .ref f)]⟩) _ E' { s with heap := copyHeap s.heap its }
  rw [ksk_t1]
  unfold ksk_tree
  have hcs : (copyHeap s.heap its).objs.size = s.heap.objs.size + 2 := by
    unfold copyHeap
    rw [size_push', Heap.size_update, size_push']
  have ho := copyHeap_at s.heap its
  refine wpAny_bind (listItems_at ho rfl ?_)
  refine wpAny_bind (listUpdate_at ho rfl ?_ (by rw [List.size_toArray]; exact hz') (Nat.zero_le _))
  obtain ⟨e1, ho1⟩ : ∃ e1, ((copyHeap s.heap its).update (s.heap.objs.size + 1) (Obj.mapSeq fun _ => #[])).get? (s.heap.objs.size + 1) = some (seqObj "list" #[] e1) := ⟨_, get?_update_seq ho fun _ => #[]⟩
  refine wpAny_bind (seqEpoch_at ho1 rfl ?_)
  refine wpAny_bind (wpAny_newTuple ?_ (by show its.length ≤ _; exact hz'))
  refine wpAny_bind (wpAny_newList ?_ (Nat.zero_le _))
  refine wpAny_holding ?_
  have hks : (((copyHeap s.heap its).update (s.heap.objs.size + 1) (Obj.mapSeq fun _ => #[])).push (seqObj "tuple" its.toArray 0)).objs.size = s.heap.objs.size + 3 := by
    rw [size_push', Heap.size_update, hcs]
  have hoa : (sortingHeap (copyHeap s.heap its) (s.heap.objs.size + 1) its).get? (s.heap.objs.size + 1) = some (seqObj "list" #[] e1) :=
    Heap.get?_push_of_some _ (Heap.get?_push_of_some _ ho1)
  have hok : (sortingHeap (copyHeap s.heap its) (s.heap.objs.size + 1) its).get? (s.heap.objs.size + 3) = some (seqObj "list" #[] 0) := by
    rw [← hks]
    exact Heap.get?_push_size _ rfl
  show wpAny _ _ (ksk_rest (s.heap.objs.size + 1) (.ref f) false its.toArray e1 (.ref (((copyHeap s.heap its).update (s.heap.objs.size + 1) (Obj.mapSeq fun _ => #[])).push (seqObj "tuple" its.toArray 0)).objs.size)) _ E' { s with heap := sortingHeap (copyHeap s.heap its) (s.heap.objs.size + 1) its }
  rw [hks]
  have hk0 : ∀ b o, s.heap.get? b = some o → (sortingHeap (copyHeap s.heap its) (s.heap.objs.size + 1) its).get? b = some o := fun b o q => sorting_copy_old q
  generalize sortingHeap (copyHeap s.heap its) (s.heap.objs.size + 1) its = g0 at hoa hok hk0
  have old : ∀ b o, s.heap.get? b = some o → b < s.heap.objs.size := fun b o e => Heap.lt_size e
  have nL : @LT.lt Nat _ X.env.locals s.heap.objs.size := I.lt
  have up : ∀ c i : Nat, c < s.heap.objs.size → c ≠ s.heap.objs.size + i := fun c i h => by omega
  have pu : ∀ c i : Nat, c < s.heap.objs.size → s.heap.objs.size + i ≠ c := fun c i h => by omega
  have le0 : ∀ i : Nat, X.s_0.heap.objs.size ≤ s.heap.objs.size + i := fun i => Nat.le_trans I.sz (Nat.le_add_right _ _)
  have n13 : ¬ s.heap.objs.size + 1 = s.heap.objs.size + 3 := by omega
  have n31 : ¬ s.heap.objs.size + 3 = s.heap.objs.size + 1 := by omega
  have nC : ∀ x c, X.env.cells.lookup x = some c → c < s.heap.objs.size := fun x c e => by
    obtain ⟨v, o, ho, _⟩ := I.cell x c e
    exact Heap.lt_size ho
  have nP : ∀ p ∈ X.pn ++ pins, p.1 < s.heap.objs.size := fun p hp => Heap.lt_size (I.pin p hp).1
  have sz := I.sz
  unfold ksk_rest
  refine wpAny_bind (wpAny_rule ?_)
  first
    | rw [List.forIn_toArray]
    | (rw [← Array.forIn_toList]; simp only [List.toList_toArray])
    | rw [← Array.forIn_toList]
  refine wpAny_bind (ksk_fold (fun i s' => ∃ (Hc : Hp) (ks : List V) (kA : Array Value) (e : Nat), Inv X (pins ++ [(s.heap.objs.size + 3, seqObj "list" kA e), (s.heap.objs.size + 1, seqObj "list" #[] e1)]) σ Hc s' ∧ Same H Hc ∧ Vals ks kA.toList ∧
      EachIs (fun x b => Dp X.K Hc x (key b)) ks (bs.take i)) its 0 { s with heap := g0 } ?start ?step ?done)
  case start =>
    have I1 : Inv X pins σ H { s with heap := g0 } := I.kept (t' := s.toks) hk0
    have hf1 := I.hok.fresh (a := s.heap.objs.size + 1) (by omega)
    have hf3 := I.hok.fresh (a := s.heap.objs.size + 3) (by omega)
    refine ⟨H, [], #[], 0, I1.pins_of fun p hp => ?_, Same.refl _, .nil, by rw [List.take_zero]; exact .nil⟩
    rcases List.mem_append.mp hp with hp | hp
    · exact I1.pin p (List.mem_append_right _ hp)
    · rcases List.mem_cons.mp hp with rfl | hp
      · exact ⟨hok, hf3, pu _ 3 nL, I.nofs (by show _ ≤ s.heap.objs.size + 3; omega), fun v => by simp [seqObj]⟩
      · rw [List.mem_singleton.mp hp]
        exact ⟨hoa, hf1, pu _ 1 nL, I.nofs (by show _ ≤ s.heap.objs.size + 1; omega), fun v => by simp [seqObj]⟩
  case step =>
    rintro j u s' hu ⟨Hc, ks, kA, e, I', sm, rk, hke⟩
    simp only [Nat.zero_add] at hke ⊢
    have hj : j < its.length := (List.getElem?_eq_some_iff.mp hu).1
    obtain ⟨b, hbj⟩ : ∃ b, bs[j]? = some b := ⟨_, List.getElem?_eq_getElem (by omega)⟩
    obtain ⟨b', hbj', x, rx, hR⟩ := each_get (each_vals rv he) hu
    obtain rfl : b' = b := by rw [hbj] at hbj'; exact (Option.some.inj hbj').symm
    have hkl : kA.size ≤ its.length := by
      have h1 : ks.length = kA.size := rk.length.trans (by simp)
      have h2 := hke.length
      rw [List.length_take] at h2
      rw [← h1, h2]
      exact Nat.le_trans (Nat.min_le_right _ _) (Nat.le_of_eq hbl.symm)
    have hsp := hkey x b' Hc sm (List.mem_of_getElem? hbj) hR
    have run := F.run X.A.in1.in1 X.stack s' Hc ⟨[u], []⟩ [u] [x] _ _ (room2 hr) I'.env0.in1.in1 (by
      have := hb s' [u] I'.kIn (by have := F.len _ _ _ _ hsp; simpa using this)
      simpa using this) (.cons rx .nil) hsp
    refine wpAny_bind (wpAny_attempt (wpAny_mono (Q := fun v s2 => EP X (pins ++ [(s.heap.objs.size + 3, seqObj "list" kA e), (s.heap.objs.size + 1, seqObj "list" #[] e1)]) σ (fun v H2 => Same Hc H2 ∧ Dp X.K H2 v (key b')) v s2) (E := fun _ _ => False) (wpAny_call (codeAny_mono run fun r s2 hq => ?_)) (fun v s2 he => ?_) fun _ _ hF => hF.elim))
    · cases r with
      | error e => exact hq
      | ok fl =>
        cases fl with
        | ret u => exact I'.after hq
        | next => exact False.elim hq
        | brk => exact False.elim hq
        | cont => exact False.elim hq
    · obtain ⟨kv, H2, I2, rkv, sm2, hd⟩ := he
      have pk := I2.pin (s.heap.objs.size + 3, seqObj "list" kA e) (List.mem_append_right _ (List.mem_append_right _ (.head _)))
      have pa := I2.pin (s.heap.objs.size + 1, seqObj "list" #[] e1) (List.mem_append_right _ (List.mem_append_right _ (.tail _ (.head _))))
      have s1 := Heap.SameBut.update s2.heap (s.heap.objs.size + 3) (Obj.mapSeq (·.push v))
      obtain ⟨c2, hc2⟩ : ∃ c2, (s2.heap.update (s.heap.objs.size + 3) (Obj.mapSeq (·.push v))).get? (s.heap.objs.size + 3) = some (seqObj "list" (kA.push v) c2) := ⟨_, get?_update_seq pk.1 (·.push v)⟩
      have I3 : Inv X pins σ H2 s2 := I2.pins_of fun p hp => I2.pin p (List.mem_append_right _ (List.mem_append_left _ hp))
      have I4 : Inv X pins σ H2 { s2 with heap := s2.heap.update (s.heap.objs.size + 3) (Obj.mapSeq (·.push v)), toks := s2.toks } := I3.turned (it := s.heap.objs.size + 3) (fun b o n q => (s1.2 b n).trans q) pk.2.1 pk.2.2.1 (.inr (le0 3)) (fun x c q => up _ 3 (nC x c q)) fun p hp => up _ 3 (nP p hp)
      try dsimp only
      refine wpAny_bind (listUpdate_at pk.1 rfl ?_ (Nat.le_trans hkl hz') (Nat.le_trans (Nat.le_of_eq (Array.size_push ..)) (Nat.succ_le_succ (Nat.le_trans hkl hz'))))
      refine wpAny_pure ⟨rfl, H2, ks ++ [kv], kA.push v, c2, I4.pins_of fun p hp => ?_, sm.trans sm2, ?_, ?_⟩
      · rcases List.mem_append.mp hp with hp | hp
        · exact I4.pin p (List.mem_append_right _ hp)
        · rcases List.mem_cons.mp hp with rfl | hp
          · exact ⟨hc2, pk.2.1, pk.2.2.1, pk.2.2.2.1, fun v => by simp [seqObj]⟩
          · rw [List.mem_singleton.mp hp]
            exact ⟨(s1.2 _ n13).trans pa.1, pa.2⟩
      · rw [Array.toList_push]
        exact rk.append (.cons rkv .nil)
      · have ek : bs.take (j + 1) = bs.take j ++ [b'] := by rw [List.take_add_one, hbj]; simp
        rw [ek]
        exact each_snocK (R := fun x b => Dp X.K H2 x (key b)) hd (each_imp (R := fun x b => Dp X.K Hc x (key b)) (fun x b q => Dp.same sm2 _ _ q) hke)
  case done =>
    rintro s' ⟨Hc, ks, kA, e, I', sm, rk, hke⟩
    have hke' : EachIs (fun x b => Dp X.K Hc x (key b)) ks bs := by
      have e3 : bs.take (0 + its.length) = bs := List.take_of_length_le (by omega)
      rw [e3] at hke
      exact hke
    have pk := I'.pin (s.heap.objs.size + 3, seqObj "list" kA e) (List.mem_append_right _ (List.mem_append_right _ (.head _)))
    have pa := I'.pin (s.heap.objs.size + 1, seqObj "list" #[] e1) (List.mem_append_right _ (List.mem_append_right _ (.tail _ (.head _))))
    have hsz : kA.size = its.length := by
      have h1 : ks.length = kA.size := rk.length.trans (by simp)
      have h2 := hke'.length
      exact h1.symm.trans (h2.trans hbl.symm)
    have rd := each_reads I' rk hke'
    try dsimp only
    refine wpAny_bind (listItems_at pk.1 rfl ?_)
    have SA : SortsAt X.prog X.w X.A.in1.in1 s' (dataKind s'.heap (bs.map key)) kA.toList := SortsAt.data rd hk.al hk.so fun d hd => by
      have h1 := hk.dp d hd
      have h2 := hr.un
      simp only [units_in1]
      omega
    obtain ⟨m, Fr0⟩ := I'.fr
    have hiB : ∀ i : Nat, X.base.get? (s.heap.objs.size + i) = none := fun i => by
      cases q : X.base.get? (s.heap.objs.size + i) with
      | none => rfl
      | some o =>
        exact absurd (Nat.lt_of_le_of_lt (Nat.le_add_right _ _) (Heap.lt_size (I.bk _ o q))) (Nat.lt_irrefl _)
    let rs := (allNews X.base s'.heap X.env.locals).filter fun p => decide (p.1 ≠ s.heap.objs.size + 3 ∧ p.1 ≠ s.heap.objs.size + 1)
    have hrs : ∀ p ∈ rs, p.1 ≠ s.heap.objs.size + 3 ∧ p.1 ≠ s.heap.objs.size + 1 := fun p hp => of_decide_eq_true (List.mem_filter.mp hp).2
    have N0 : News X.base X.env.locals s'.heap (rs ++ [(s.heap.objs.size + 3, seqObj "list" kA e), (s.heap.objs.size + 1, seqObj "list" #[] e1)]) := fun p hp => by
      rcases List.mem_append.mp hp with hp | hp
      · exact news_all p (List.mem_filter.mp hp).1
      · rcases List.mem_cons.mp hp with rfl | hp
        · exact ⟨pk.1, pk.2.2.1, hiB 3⟩
        · rw [List.mem_singleton.mp hp]
          exact ⟨pa.1, pa.2.2.1, hiB 1⟩
    refine key_end (κ := dataKind s'.heap (bs.map key)) Fr0 N0 n31 (fun p hp => (hrs p hp).1) (fun p hp => (hrs p hp).2) SA hsz hz' fun h' tk ep F' N' => ⟨rfl, ?_⟩
    have kp : ∀ c o, c ≠ X.env.locals → c ≠ s.heap.objs.size + 3 → c ≠ s.heap.objs.size + 1 → s'.heap.get? c = some o → h'.get? c = some o := fun c o n0 n1 n2 q => by
      cases z : X.base.get? c with
      | some u =>
        have := I'.bk c u z
        rw [q] at this
        cases this
        exact F'.keep c _ z
      | none => exact (N' (c, o) (List.mem_cons_of_mem _ (List.mem_filter.mpr ⟨mem_allNews n0 z q, decide_eq_true ⟨n1, n2⟩⟩))).1
    have ha' := (N' _ List.mem_cons_self).1
    have out := sortVals_each (κ := dataKind s'.heap (bs.map key)) (rev := false) (fun b => keyToks (key b)) (each_vals rv he) (each_of_map key (each_keys hk.al rd))
    obtain ⟨ys, ry, hy⟩ := vals_each out
    have hlen : ys.length ≤ sizeLine := by
      rw [ry.length, sortVals_length false (by rw [Array.length_toList]; exact hsz)]
      exact hz'
    have I3 : Inv X pins σ Hc s' := I'.pins_of fun p hp => I'.pin p (List.mem_append_right _ (List.mem_append_left _ hp))
    have fin : Inv X pins σ (upd Hc (s.heap.objs.size + 1) (.lst ys)) { s' with heap := h', gens := s'.gens, drawn := s'.drawn, toks := tk } := by
      have hna : Hc (s.heap.objs.size + 1) = none := pa.2.1
      have hnk : Hc (s.heap.objs.size + 3) = none := pk.2.1
      refine I3.step (ch := [s.heap.objs.size + 3, s.heap.objs.size + 1]) (fun b hb => ?_) (fun b o nl _ hc q _ => kp b o nl (fun z => hc (by simp [z])) (fun z => hc (by simp [z])) q) (fun b o nl _ hc q _ => ⟨o.slots, kp b o nl (fun z => hc (by simp [z])) (fun z => hc (by simp [z])) q⟩)
        (fun b o hc q n => ?_) (fun b o hc q => ?_) (fun b xs q => by rw [upd_ne (ne_of_none q hna)]; exact q) (fun b o u q => by rw [upd_ne (ne_of_none q hna)]; exact q) (fun b ps q => ⟨#[], by rw [upd_ne (ne_of_none q hna), q]; simp⟩) (fun m hm => ?_) (fun b u q => ?_) I3.bare
      · have : b = s.heap.objs.size + 3 ∨ b = s.heap.objs.size + 1 := by simpa using hb
        rcases this with rfl | rfl
        · exact ⟨.inr (le0 3), pu _ 3 nL, fun x c q => up _ 3 (nC x c q), fun p hp => up _ 3 (nP p hp)⟩
        · exact ⟨.inr (le0 1), pu _ 1 nL, fun x c q => up _ 1 (nC x c q), fun p hp => up _ 1 (nP p hp)⟩
      · rw [upd_ne (fun z => hc (by simp [z]))]
        exact n
      · by_cases hbl : b = X.env.locals
        · obtain ⟨o', _, _, ho', _⟩ := F'.ns
          exact ⟨o', by rw [hbl]; exact ho'⟩
        · exact ⟨o, kp b o hbl (fun z => hc (by simp [z])) (fun z => hc (by simp [z])) q⟩
      · rw [nsOne hm Fr0.ns]
        exact F'.ns
      · by_cases hba : b = s.heap.objs.size + 1
        · subst hba
          rw [upd_same] at q
          cases q
          exact ⟨hlen, _, ep, ry, ha'⟩
        · rw [upd_ne hba] at q
          refine (I3.hok b u q).stay (fun c v hc r => kp c v ?_ ?_ ?_ r) (fun c r => by rw [upd_ne (ne_of_none r hna)]; exact r) fun c xs r => by rw [upd_ne (ne_of_none r hna)]; exact r
          · rcases hc with z | z
            · rw [z]; exact ne_of_none q I3.free
            · exact ne_of_none z I3.free
          · rcases hc with z | z
            · rw [z]; exact ne_of_none q hnk
            · exact ne_of_none z hnk
          · rcases hc with z | z
            · rw [z]; exact hba
            · exact ne_of_none z hna
    exact ⟨.ref _, _, fin, rfl, q ys _ _ hy (I.hok.fresh (by omega)) upd_same fun b o z => by rw [upd_ne (ne_of_none (sm b o z) pa.2.1)]; exact sm b o z⟩
end
end Rs

/-! Further readings: zip of tuples, comprehensions that make dicts, locks, sorting. -/
namespace Rw
open PySem PySem.Spec PyProof.Rows L2 Rd
variable {X : Cx} {D : Ends} {σ : L2.St} {H : Hp} {K : PySem.W.Frag}
theorem walk_zipT {a b : Addr} {xs ys : List V} {n : Nat} (hn : n = min xs.length ys.length) : Walk (RZ.ItzT K a b) n (fun H => SqT K H a xs ∧ SqT K H b ys) (YPair (fun i => xs[i]?) (fun i => ys[i]?)) := by
  subst hn
  refine ⟨fun i H hi q => ⟨xs, ys, xs[i]'(by omega), ys[i]'(by omega), q.1, q.2, List.getElem?_eq_getElem _, List.getElem?_eq_getElem _⟩, fun H q => ⟨xs, ys, q.1, q.2, by omega⟩, ?_⟩
  rintro i H v H' _ q ⟨T, x, y, h1, h2, h3, h4, h5⟩
  exact ⟨T, x, y, h1, h2, h3, h4 xs q.1, h5 ys q.2⟩
theorem zipH {ta : TA} {R : It → Hp → Prop} (h : ta σ H fun vs H1 => ∃ a b xs ys, vs = [.ref a, .ref b] ∧ ((SqL K H1 a xs ∧ SqL K H1 b ys ∧ R (Itz K a b) H1) ∨ (SqT K H1 a xs ∧ SqT K H1 b ys ∧ R (RZ.ItzT K a b) H1))) : RZ.iZipA K ta σ H R := h
theorem zipT {a b : Addr} {xs ys : List V} {P Q : Addr → Addr → Prop} (h1 : SqT K H a xs) (h2 : SqT K H b ys) (h : Q a b) : ∃ a' b' xs ys, [V.ref a, V.ref b] = [.ref a', .ref b'] ∧ ((SqL K H a' xs ∧ SqL K H b' ys ∧ P a' b') ∨ (SqT K H a' xs ∧ SqT K H b' ys ∧ Q a' b')) :=
  ⟨a, b, xs, ys, rfl, .inr ⟨h1, h2, h⟩⟩
theorem slT {a : Addr} {xs : List V} {lo hi : Option Int} {Q : VK} (hp : SqT K H a xs) (hw : ¬ (HT.sIx xs.length 0 lo = 0 ∧ HT.sIx xs.length xs.length hi = xs.length)) (h : NewQ (.tup (cutV xs lo hi)) Q H) : rSlT K (.ref a) lo hi H Q := ⟨a, xs, rfl, hp, hw, h⟩
theorem sl1 {a : Addr} {xs : List V} {Q : VK} (hp : SqT K H a xs) (n0 : xs ≠ []) (h : NewQ (.tup xs.tail) Q H) : rSlT K (.ref a) (some 1) none H Q := by
  have l : 1 ≤ xs.length := Nat.one_le_iff_ne_zero.mpr fun e => n0 (List.eq_nil_of_length_eq_zero e)
  have e1 : HT.sIx xs.length 0 (some ((1 : Nat) : Int)) = 1 := by rw [HT.sIx_nat]; omega
  refine slT hp (fun ⟨e, _⟩ => ?_) ?_
  · have e' : HT.sIx xs.length 0 (some ((1 : Nat) : Int)) = 0 := e
    omega
  · have e : cutV xs (some 1) none = xs.tail := by
      show (xs.drop (HT.sIx xs.length 0 (some ((1 : Nat) : Int)))).take (xs.length - HT.sIx xs.length 0 (some ((1 : Nat) : Int))) = xs.tail
      rw [e1, List.drop_one]
      exact List.take_of_length_le (by rw [List.length_tail]; exact Nat.le_refl _)
    rw [e]
    exact h
/-! ### locks -/
def LkE (t : TE) (d : Addr) (u : HO) (σ : L2.St) (H : Hp) (Q : VK) : Prop := ∀ od, t σ (upd H d (.frz od u)) fun v H' => H' d = some (.frz od u) ∧ Q v (upd H' d u)
theorem lockE {t : TE} {d : Addr} {u : HO} {Q : VK} (e : H d = some u) (m : Mut (some u)) (h : ∀ (od : Obj) (G : Hp), G d = some (.frz od u) → (∀ b, b ≠ d → G b = H b) → t σ G fun v H' => H' d = some (.frz od u) ∧ Q v (upd H' d u)) : tLockE t σ H Q :=
  ⟨d, u, e, m, fun od => h od _ upd_same fun b hb => upd_ne hb⟩
theorem itemsH {td : TE} {R : It → Hp → Prop} (h : td σ H fun x H1 => ∃ d o kvs, x = .ref d ∧ H1 d = some (.frz o (.dK kvs)) ∧ R (Iti d o kvs) H1) : iItems td σ H R := h
theorem itemsX {d : Addr} {od : Obj} {kvs : List (Key × V)} {P : Addr → Obj → List (Key × V) → Prop} (e : H d = some (.frz od (.dK kvs))) (h : P d od kvs) : ∃ d' o kvs, V.ref d = .ref d' ∧ H d' = some (.frz o (.dK kvs)) ∧ P d' o kvs := ⟨d, od, kvs, rfl, e, h⟩
theorem keysH {td : TE} {R : It → Hp → Prop} (h : td σ H fun x H1 => ∃ d o, x = .ref d ∧ ((∃ kvs, H1 d = some (.frz o (.dK kvs)) ∧ R (Itk d o kvs) H1) ∨ ∃ kvs, H1 d = some (.frz o (.dT kvs)) ∧ R (Itkt d o kvs) H1)) : iKeys td σ H R := h
theorem keysX {d : Addr} {od : Obj} {kvs : List (Key × V)} {P : Addr → Obj → List (Key × V) → Prop} {P' : Addr → Obj → List (List Key × V) → Prop} (e : H d = some (.frz od (.dK kvs))) (h : P d od kvs) : ∃ d' o, V.ref d = .ref d' ∧ ((∃ kvs, H d' = some (.frz o (.dK kvs)) ∧ P d' o kvs) ∨ ∃ kvs, H d' = some (.frz o (.dT kvs)) ∧ P' d' o kvs) := ⟨d, od, rfl, .inl ⟨kvs, e, h⟩⟩
/-! ### dict comprehensions -/
section
variable {X : Cx}
theorem ps_setDc {i : Nat} {y : Str} {py : Pos} {kx vx tg iter : Expr} {ifs : List Expr} {scope : Scope} {own : List (Str × Nat)} {pos spos : Pos} {wi : TI} {g : TG} {tt : TT} {tk tv : TE} (hc : X.calm = true) (hN : X.N.Nodup) (hy : X.N[i]? = some y) (hyl : X.env.scope.names.lookup y = some .local)
    (hsw : swapsWith (.DictComp kx vx [⟨tg, iter, ifs, 0⟩] scope pos) (some (.Name y py)) spos.line X.env = pure true) (hi : PI X tg iter wi) (ok : BlkOk X.N X.env.scope scope own)
    (hg : ∀ (s : Shared) (H : Hp) (C : Addr) (cl : List (Str × Addr)) (fp : List Addr), PG (X.blk s H scope (compEnvC scope cl C X.env) fp) tg g)
    (ht : ∀ (s : Shared) (H : Hp) (C : Addr) (cl : List (Str × Addr)) (fp : List Addr), PTs (X.blk s H scope (compEnvC scope cl C X.env) fp) ifs tt)
    (hk : ∀ (s : Shared) (H : Hp) (C : Addr) (cl : List (Str × Addr)) (fp : List Addr), PE (X.blk s H scope (compEnvC scope cl C X.env) fp) kx tk)
    (he : ∀ (s : Shared) (H : Hp) (C : Addr) (cl : List (Str × Addr)) (fp : List Addr), PE (X.blk s H scope (compEnvC scope cl C X.env) fp) vx tv) (hs : ∀ x, foldedSetIterable iter X.env x = pure x := by intro _; rfl) :
    PS X (.Assign [.Name y py] (.DictComp kx vx [⟨tg, iter, ifs, 0⟩] scope pos) spos) (tAsg (tDc wi g tt tk tv (own.map (·.2))) (gName i)) := by
  refine ⟨fun pins s σ H D I h => ?_⟩
  have h' : tDc wi g tt tk tv (own.map (·.2)) σ H (fun x H1 => gName i x σ H1 D.nx) := h
  rw [exec_Assign_Name_used _ _ _ _ hsw]
  refine wpAny_bind (wpAny_standAt (wpAny_bind ?_))
  show wpAny _ _ (comprehension (.DictComp kx vx [⟨tg, iter, ifs, 0⟩] scope pos) scope X.env (firstIterPos [⟨tg, iter, ifs, 0⟩] pos) newDict false (eval iter X.env) (some (assign (.Name y py) X.env)) >>= fun _ => pure ()) _ _ s
  refine wpAny_bind (thn (dc_core (use := some (assign (.Name y py) X.env)) (Qf := fun _ s' => SP X pins D .next s') hc hN I hi ok hg ht hk he hs h' fun L C s1 m H1 I1 q hn f => ?_) fun _ s2 hq => wpAny_pure (wpAny_pure hq))
  refine (wpAny_assign_Name (store_ok2 (v := V.ref L) I1 hN hy (.inl hyl) rfl (fun s2 I2 w => ?_) (.inr hyl)) : wpAny _ _ (assign (.Name y py) X.env (.ref L)) _ _ _)
  obtain ⟨b, sb, hb⟩ := w
  obtain ⟨f0, f1, f2, f3, f4, f5⟩ := f
  have ne : C ≠ b := hb.elim (fun z => z ▸ f1) fun z e => f4 y b z e.symm
  exact ⟨m, hn.sameBut sb ne, fun h3 sb3 => ⟨_, H1, I2.turned (t' := s2.toks) (fun c o n e => (sb3.2 c n).trans e) f0 f1 f3 f4 f5, q⟩⟩
theorem sw_dc {kx vx : Expr} {gs : List Comprehension} {scope : Scope} {pos py : Pos} {y : Str} {l : Nat} {env : Env} (hk : env.scope.kind = .function) (hy : env.scope.names.lookup y = some .local) (hl : (py.line == pos.line) = true)
    (ha : (scope.names.any fun (n, k) => n == y && (k == .local || k == .cell)) = false) : swapsWith (.DictComp kx vx gs scope pos) (some (.Name y py)) l env = pure true := by
  have k1 : env.kindOf y = some .local := hy
  have k2 : env.blockKind = .function := by unfold Env.blockKind; rw [hk]; rfl
  unfold swapsWith
  simp only [k2, k1, ha, Expr.pos, hl]
  rfl
end
def Dc (J : It) (g : TG) (tt : TT) (tk tv : TE) (vs : List Nat) (σ : L2.St) (H1 : Hp) (Q : VK) : Prop := ∀ D, H1 D = none → ∃ W : Nat → Nat → Hp → Prop, (∃ m, W 0 m (upd H1 D (.dK []))) ∧ ∀ i m H, W i m H →
  (J.stop i H ∧ Q (.ref D) H) ∨ (J.go i H ∧ ∃ Nx : Hp → Prop, (∀ H', Nx H' → ∃ m', m' < m ∧ W (i + 1) m' H') ∧ ∀ x H', J.yld i H x H' → g x (wipe σ vs) H' fun σ2 H2 => wipe σ2 vs = wipe σ vs ∧ tt σ2 H2 fun b H3 =>
    if b = true then tk σ2 H3 fun y H4 => tv σ2 H4 fun z H5 => ∃ kvs k, y = kV k ∧ H5 D = some (.dK kvs) ∧ kvs.length < sizeLine ∧ Nx (upd H5 D (.dK (putK kvs k z))) else Nx H3)
theorem dc {wi : TI} {g : TG} {tt : TT} {tk tv : TE} {vs : List Nat} {Q : VK} (h : wi σ H fun J H1 => Dc J g tt tk tv vs σ H1 Q) : tDc wi g tt tk tv vs σ H Q := h
def DcPut (D : Addr) (H1 : Hp) (R : Nat → List (Key × V) → Hp → Prop) (i : Nat) (y z : V) (H5 : Hp) : Prop := ∃ kvs k, y = kV k ∧ H5 D = some (.dK kvs) ∧ kvs.length < sizeLine ∧ ∃ kvs', upd H5 D (.dK (putK kvs k z)) D = some (.dK kvs') ∧ Same H1 (upd H5 D (.dK (putK kvs k z))) ∧ R (i + 1) kvs' (upd H5 D (.dK (putK kvs k z)))
def DcNo (D : Addr) (H1 : Hp) (R : Nat → List (Key × V) → Hp → Prop) (i : Nat) (H3 : Hp) : Prop := ∃ kvs', H3 D = some (.dK kvs') ∧ Same H1 H3 ∧ R (i + 1) kvs' H3
theorem dcPut {D : Addr} {H1 H5 : Hp} {R : Nat → List (Key × V) → Hp → Prop} {i : Nat} {k : Key} {z : V} {kvs : List (Key × V)} (hD : H5 D = some (.dK kvs)) (nD : H1 D = none) (s : Same H1 H5) (hz : kvs.length < sizeLine) (r : ∀ G : Hp, G D = some (.dK (putK kvs k z)) → (∀ b, b ≠ D → G b = H5 b) → R (i + 1) (putK kvs k z) G) : DcPut D H1 R i (kV k) z H5 :=
  ⟨kvs, k, rfl, hD, hz, _, upd_same, fun b o e => by rw [upd_ne (ne_of_none e nD)]; exact s b o e, r _ upd_same fun b hb => upd_ne hb⟩
theorem dcS {J : It} {n : Nat} {G : Hp → Prop} {Y : Nat → Hp → V → Hp → Prop} (w : Walk J n G Y) {g : TG} {tt : TT} {tk tv : TE} {vs : List Nat} {H1 : Hp} {Q : VK} (hG : ∀ H, Same H1 H → G H) (R : Addr → Nat → List (Key × V) → Hp → Prop)
    (r0 : ∀ (D : Addr) (G : Hp), H1 D = none → G D = some (.dK []) → Same H1 G → R D 0 [] G)
    (hs : ∀ (D : Addr) i x H H' kvs, H1 D = none → i < n → H D = some (.dK kvs) → Same H1 H → R D i kvs H → Y i H x H' → g x (wipe σ vs) H' fun σ2 H2 => wipe σ2 vs = wipe σ vs ∧ tt σ2 H2 fun b H3 =>
      if b = true then tk σ2 H3 fun y H4 => tv σ2 H4 fun z H5 => DcPut D H1 (R D) i y z H5 else DcNo D H1 (R D) i H3)
    (hd : ∀ (D : Addr) kvs H, H1 D = none → H D = some (.dK kvs) → Same H1 H → R D n kvs H → Q (.ref D) H) : Dc J g tt tk tv vs σ H1 Q := fun D nD => by
  refine ⟨fun i m H => m = n - i ∧ i ≤ n ∧ ∃ kvs, H D = some (.dK kvs) ∧ Same H1 H ∧ R D i kvs H, ⟨n, by simp, Nat.zero_le _, [], upd_same, same_upd nD, r0 D _ nD upd_same (same_upd nD)⟩, ?_⟩
  rintro i m H ⟨rfl, hi, kvs, h1, h2, h3⟩
  have q := hG H h2
  by_cases hlt : i < n
  · refine .inr ⟨w.goes i H hlt q, fun H => ∃ kvs, H D = some (.dK kvs) ∧ Same H1 H ∧ R D (i + 1) kvs H, fun H' p' => ⟨n - (i + 1), by omega, rfl, hlt, p'⟩, fun x H' y => ?_⟩
    exact hs D i x H H' kvs nD hlt h1 h2 h3 (w.yields i H x H' hlt q y)
  · have e : i = n := by omega
    subst e
    exact .inl ⟨w.stops H q, hd D kvs H nD h1 h2 h3⟩
/-! ### sorted -/
theorem sortD {β : Type} {a : Addr} {xs : List V} {bs : List β} {Q : VK} (k : β → PyData) (R : V → β → Prop) (hs : SqL K H a xs) (he : PySem.W.EachIs (fun x b => Dp K H x (k b) ∧ R x b) xs bs) (hk : Rs.Keys (bs.map k))
    (h : ∀ (out : List V) (p : Addr) (G : Hp), PySem.W.EachIs (fun x b => Dp K H x (k b) ∧ R x b) out (bs.mergeSort (PySem.W.dataLe false k)) → H p = none → G p = some (.lst out) → Same H G → Q (.ref p) G) : Rs.rSortD K [.ref a] H Q :=
  ⟨a, xs, β, bs, k, R, rfl, hs, he, hk, h⟩
def SortK (f : Addr) (sp : Sp) (K : PySem.W.Frag) (vs zs : List V) (H : Hp) (Q : VK) : Prop := Rs.rSortK f sp K vs zs H Q
theorem ckw {r : List V → List V → Hp → VK → Prop} {t tk : TA} {Q : VK} (h : t σ H fun vs H1 => tk σ H1 fun zs H2 => r vs zs H2 Q) : tCKw r t tk σ H Q := h
theorem sortK {β : Type} {f : Addr} {sp : Sp} {a : Addr} {xs : List V} {bs : List β} {Q : VK} (k : β → PyData) (R : V → β → Prop) (hs : SqL K H a xs) (he : PySem.W.EachIs R xs bs) (hk : Rs.Keys (bs.map k))
    (hf : ∀ x b H1, Same H H1 → b ∈ bs → R x b → sp [x] H1 (fun v H2 => Same H1 H2 ∧ Dp K H2 v (k b)) (fun _ _ _ => False))
    (h : ∀ (out : List V) (p : Addr) (G : Hp), PySem.W.EachIs R out (bs.mergeSort (PySem.W.dataLe false k)) → H p = none → G p = some (.lst out) → Same H G → Q (.ref p) G) : Rs.rSortK f sp K [.ref a] [.ref f] H Q :=
  ⟨a, xs, β, bs, k, R, rfl, rfl, hs, he, hk, hf, h⟩
def DClr : V → List V → Hp → VK → Prop := rDClear
theorem clr {a : Addr} {kvs : List (Key × V)} {Q : VK} (e : H a = some (.dK kvs)) (h : ∀ G : Hp, G a = some (.dK []) → (∀ b, b ≠ a → G b = H b) → Q .non G) : rDClear (.ref a) [] H Q := ⟨a, kvs, rfl, rfl, e, h _ upd_same fun b hb => upd_ne hb⟩
end Rw
namespace Rd
open PySem PySem.Spec PyProof.Rows L2
variable {σ : L2.St} {H : Hp} {K : PySem.W.Frag}
theorem notT {ta : TE} {Q : VK} (h : ta σ H fun x H1 => ∃ k, TruV K x H1 k ∧ Q (.bl (!k)) H1) : tNotT K ta σ H Q := h
theorem yes {c A B : Prop} {i : Decidable c} (h : c) (a : A) : @ite Prop c i A B := by rw [if_pos h]; exact a
theorem no {c A B : Prop} {i : Decidable c} (h : ¬ c) (a : B) : @ite Prop c i A B := by rw [if_neg h]; exact a
theorem ifX {x : V} {i : Decidable (x = V.non)} {A B : Prop} (n : x ≠ .non) (h : B) : @ite Prop (x = V.non) i A B := by rw [if_neg n]; exact h
theorem ifR {a : Addr} {i : Decidable (V.ref a = V.non)} {A B : Prop} (h : B) : @ite Prop (V.ref a = V.non) i A B := ifX (by intro e; cases e) h
theorem ifI {a : Int} {i : Decidable (V.int a = V.non)} {A B : Prop} (h : B) : @ite Prop (V.int a = V.non) i A B := ifX (by intro e; cases e) h
theorem ifT {a : Str} {i : Decidable (V.str a = V.non)} {A B : Prop} (h : B) : @ite Prop (V.str a = V.non) i A B := ifX (by intro e; cases e) h
theorem ifN {i : Decidable (V.non = V.non)} {A B : Prop} (h : A) : @ite Prop (V.non = V.non) i A B := by rw [if_pos rfl]; exact h
theorem orTH {ta tb : TE} {Q : VK} (h : ta σ H fun x H1 => ∃ k, TruV K x H1 k ∧ if k = true then Q x H1 else tb σ H1 Q) : tOrT K ta tb σ H Q := h
end Rd

/-! Things of any kind, one level deep; exceptions of the program: made, raised, caught, asked. -/
namespace Rx
open PySem PySem.Spec PyProof.Rows L2 Rd
variable {X : Cx} {D : Ends} {σ : L2.St} {H H' : Hp} {K : PySem.W.Frag}
/-! ### kinds -/
inductive Kd where
  | non | bl (b : Bool) | int (i : Int) | str (z : Str) | lst (xs : List V) | tup (xs : List V) | dct
def Kd.ty : Kd → String
  | .non => "NoneType" | .bl _ => "bool" | .int _ => "int" | .str _ => "str" | .lst _ => "list" | .tup _ => "tuple" | .dct => "dict"
/-- what stands at a value -/
inductive Is (H : Hp) : V → Kd → Prop where
  | non : Is H .non .non
  | bl (b : Bool) : Is H (.bl b) (.bl b)
  | int (i : Int) : Is H (.int i) (.int i)
  | str {z : Str} (l : z.length ≤ 1000000) : Is H (.str z) (.str z)
  | lst {a : Addr} {xs : List V} (h : H a = some (.lst xs)) (l : xs.length ≤ 1000000) : Is H (.ref a) (.lst xs)
  | tup {a : Addr} {xs : List V} (h : H a = some (.tup xs)) (l : xs.length ≤ 1000000) : Is H (.ref a) (.tup xs)
  | dct {a : Addr} {kvs : List (Key × V)} (h : H a = some (.dK kvs)) : Is H (.ref a) .dct
theorem Is.same {x : V} {k : Kd} (s : Same H H') (h : Is H x k) : Is H' x k := by
  cases h with
  | non => exact .non
  | bl b => exact .bl b
  | int i => exact .int i
  | str l => exact .str l
  | lst h l => exact .lst (s _ _ h) l
  | tup h l => exact .tup (s _ _ h) l
  | dct h => exact .dct (s _ _ h)
theorem Is.inj {x : V} {k k' : Kd} (h : Is H x k) (h' : Is H x k') : k = k' := by
  cases h <;> cases h' <;> first | rfl | (rename_i a b c d; first | (rw [a] at c; cases c; rfl) | (rw [a] at c; cases c) | (rw [a] at d; cases d) | skip) <;> simp_all
theorem Is.ty {x : V} {k : Kd} (h : Is H x k) : TyX K H x (.type k.ty) := by
  cases h with
  | non => exact .base .non
  | bl b => exact .base (.bl b)
  | int i => exact .base (.int i)
  | str l => exact .base (.str _)
  | lst h l => exact .base (.lst h)
  | tup h l => exact .base (.tup h)
  | dct h => exact .base (.dK h)
def Kd.isInt : Kd → Bool | .int _ => true | .bl _ => true | _ => false
def Kd.isBl : Kd → Bool | .bl _ => true | _ => false
def Kd.isStr : Kd → Bool | .str _ => true | _ => false
def Kd.isLst : Kd → Bool | .lst _ => true | _ => false
def Kd.isTup : Kd → Bool | .tup _ => true | _ => false
def Kd.isDct : Kd → Bool | .dct => true | _ => false
def Kd.isSeq : Kd → Bool | .lst _ => true | .tup _ => true | _ => false
/-- an integer and no flag -/
def Kd.isNum : Kd → Bool | .int _ => true | _ => false
theorem kdInt : ∀ k : Kd, kitB k.ty "int" = some k.isInt
  | .non => (by decide +kernel : kitB "NoneType" "int" = some false)
  | .bl _ => (by decide +kernel : kitB "bool" "int" = some true)
  | .int _ => (by decide +kernel : kitB "int" "int" = some true)
  | .str _ => (by decide +kernel : kitB "str" "int" = some false)
  | .lst _ => (by decide +kernel : kitB "list" "int" = some false)
  | .tup _ => (by decide +kernel : kitB "tuple" "int" = some false)
  | .dct => (by decide +kernel : kitB "dict" "int" = some false)
theorem kdBl : ∀ k : Kd, kitB k.ty "bool" = some k.isBl
  | .non => (by decide +kernel : kitB "NoneType" "bool" = some false)
  | .bl _ => (by decide +kernel : kitB "bool" "bool" = some true)
  | .int _ => (by decide +kernel : kitB "int" "bool" = some false)
  | .str _ => (by decide +kernel : kitB "str" "bool" = some false)
  | .lst _ => (by decide +kernel : kitB "list" "bool" = some false)
  | .tup _ => (by decide +kernel : kitB "tuple" "bool" = some false)
  | .dct => (by decide +kernel : kitB "dict" "bool" = some false)
theorem kdStr : ∀ k : Kd, kitB k.ty "str" = some k.isStr
  | .non => (by decide +kernel : kitB "NoneType" "str" = some false)
  | .bl _ => (by decide +kernel : kitB "bool" "str" = some false)
  | .int _ => (by decide +kernel : kitB "int" "str" = some false)
  | .str _ => (by decide +kernel : kitB "str" "str" = some true)
  | .lst _ => (by decide +kernel : kitB "list" "str" = some false)
  | .tup _ => (by decide +kernel : kitB "tuple" "str" = some false)
  | .dct => (by decide +kernel : kitB "dict" "str" = some false)
theorem kdLst : ∀ k : Kd, kitB k.ty "list" = some k.isLst
  | .non => (by decide +kernel : kitB "NoneType" "list" = some false)
  | .bl _ => (by decide +kernel : kitB "bool" "list" = some false)
  | .int _ => (by decide +kernel : kitB "int" "list" = some false)
  | .str _ => (by decide +kernel : kitB "str" "list" = some false)
  | .lst _ => (by decide +kernel : kitB "list" "list" = some true)
  | .tup _ => (by decide +kernel : kitB "tuple" "list" = some false)
  | .dct => (by decide +kernel : kitB "dict" "list" = some false)
theorem kdTup : ∀ k : Kd, kitB k.ty "tuple" = some k.isTup
  | .non => (by decide +kernel : kitB "NoneType" "tuple" = some false)
  | .bl _ => (by decide +kernel : kitB "bool" "tuple" = some false)
  | .int _ => (by decide +kernel : kitB "int" "tuple" = some false)
  | .str _ => (by decide +kernel : kitB "str" "tuple" = some false)
  | .lst _ => (by decide +kernel : kitB "list" "tuple" = some false)
  | .tup _ => (by decide +kernel : kitB "tuple" "tuple" = some true)
  | .dct => (by decide +kernel : kitB "dict" "tuple" = some false)
theorem kdDct : ∀ k : Kd, kitB k.ty "dict" = some k.isDct
  | .non => (by decide +kernel : kitB "NoneType" "dict" = some false)
  | .bl _ => (by decide +kernel : kitB "bool" "dict" = some false)
  | .int _ => (by decide +kernel : kitB "int" "dict" = some false)
  | .str _ => (by decide +kernel : kitB "str" "dict" = some false)
  | .lst _ => (by decide +kernel : kitB "list" "dict" = some false)
  | .tup _ => (by decide +kernel : kitB "tuple" "dict" = some false)
  | .dct => (by decide +kernel : kitB "dict" "dict" = some true)
theorem askInt {x : V} {k : Kd} {Q : VK} (h : Is H x k) (q : Q (.bl k.isInt) H) : rIsi K [x, .ty "int"] H Q := Rd.isi h.ty (kdInt k) q
theorem askBl {x : V} {k : Kd} {Q : VK} (h : Is H x k) (q : Q (.bl k.isBl) H) : rIsi K [x, .ty "bool"] H Q := Rd.isi h.ty (kdBl k) q
theorem askStr {x : V} {k : Kd} {Q : VK} (h : Is H x k) (q : Q (.bl k.isStr) H) : rIsi K [x, .ty "str"] H Q := Rd.isi h.ty (kdStr k) q
theorem askLst {x : V} {k : Kd} {Q : VK} (h : Is H x k) (q : Q (.bl k.isLst) H) : rIsi K [x, .ty "list"] H Q := Rd.isi h.ty (kdLst k) q
theorem askTup {x : V} {k : Kd} {Q : VK} (h : Is H x k) (q : Q (.bl k.isTup) H) : rIsi K [x, .ty "tuple"] H Q := Rd.isi h.ty (kdTup k) q
theorem askDct {x : V} {k : Kd} {Q : VK} (h : Is H x k) (q : Q (.bl k.isDct) H) : rIsi K [x, .ty "dict"] H Q := Rd.isi h.ty (kdDct k) q
/-- (list, tuple) was just laid at tp -/
theorem askSeq {x : V} {k : Kd} {tp : Addr} {Q : VK} (ht : H tp = some (.tup [.ty "list", .ty "tuple"])) (h : Is H x k) (q : Q (.bl k.isSeq) H) : rIsiT K [x, .ref tp] H Q := by
  refine ⟨_, tp, _, _, [.type "list", .type "tuple"], k.isSeq, rfl, ht, .cons (.ty _) (.cons (.ty _) .nil), h.ty, ?_, q⟩
  have e1 := kdLst k
  have e2 := kdTup k
  refine kitAny_cons (kit_ty e1) (fun z1 => kitAny_cons (kit_ty e2) (fun z2 => ?_) fun z => ?_) fun z => ?_
  · rw [kitAny_nil]
    cases k <;> first | rfl | (cases z1; done) | (cases z2; done)
  · cases k <;> first | rfl | cases z
  · cases k <;> first | rfl | cases z
/-! ### equal without a look inside -/
/-- the one is the other, or both are equal data -/
def EqI (K : PySem.W.Frag) (H : Hp) (x y : V) : Prop := (x = y ∧ flatB x = true) ∨ (∃ a, x = .ref a ∧ y = .ref a) ∨ ∃ d e, Dp K H x d ∧ Dp K H y e ∧ SeqAt.shaped d = true ∧ SeqAt.shaped e = true ∧ PyData.eqv d e = true
theorem eqI_run {pins : List (Addr × Obj)} {s : Shared} (I : Inv X pins σ H s) {A : Around} (hu : A.units + 64 < cLine) {x y : V} {v u : Value} (h : EqI X.K H x y) (rx : RelV x v) (ry : RelV y u) : SeqAt.EqAt A s v u true := by
  rcases h with ⟨rfl, f⟩ | ⟨a, rfl, rfl⟩ | ⟨d, e, hd, he, sd, se, q⟩
  · exact eqAt_same rx ry f
  · cases (show v = Value.ref a from rx)
    cases (show u = Value.ref a from ry)
    exact SeqAt.EqAt.same _
  · obtain ⟨as, r1⟩ := Dp.reads I d x v hd rx
    obtain ⟨bs, r2⟩ := Dp.reads I e y u he ry
    have z := SeqAt.eqAt_reads d e A s v u as bs r1 r2 (SeqAt.canLay_of_shaped sd) (SeqAt.canLay_of_shaped se) (SeqAt.room_of_shaped sd hu)
    rw [q] at z
    exact z
theorem eqIs_run {pins : List (Addr × Obj)} {s : Shared} (I : Inv X pins σ H s) {A : Around} (hu : A.units + 64 < cLine) {xs ys : List V} (hp : Paired (EqI X.K H) xs ys) :
    ∀ {us ws : List Value}, Vals xs us → Vals ys ws → ∀ j (h1 : j < us.length) (h2 : j < ws.length), SeqAt.EqAt A s us[j] ws[j] true := by
  induction hp with
  | nil =>
    intro us ws r1 r2 j h1 h2
    cases r1
    exact absurd h1 (Nat.not_lt_zero j)
  | cons h _ k =>
    intro us ws r1 r2 j h1 h2
    cases r1 with
    | cons a1 b1 =>
      cases r2 with
      | cons a2 b2 =>
        cases j with
        | zero => exact eqI_run I hu h a1 a2
        | succ j => exact k b1 b2 j (Nat.lt_of_succ_lt_succ h1) (Nat.lt_of_succ_lt_succ h2)
/-- two tuples whose items are equal -/
def TupEq (K : PySem.W.Frag) (H : Hp) (x y : V) : Prop := ∃ a b xs ys, x = .ref a ∧ y = .ref b ∧ SqT K H a xs ∧ SqT K H b ys ∧ Paired (EqI K H) xs ys
def rEqX (K : PySem.W.Frag) : R2 := fun x y H Q => TupEq K H x y ∧ Q (.bl true) H
def rNeX (K : PySem.W.Frag) : R2 := fun x y H Q => TupEq K H x y ∧ Q (.bl false) H
theorem op_neX (hu : X.A.units + 66 < cLine) : OpR X (compareOp .NotEq) (rNeX X.K) := by
  intro pins s σ H x y v u Q I rx ry h
  obtain ⟨⟨a, b, xs, ys, rfl, rfl, ha, hb, hp⟩, q⟩ := h
  cases (show v = Value.ref a from rx)
  cases (show u = Value.ref b from ry)
  obtain ⟨us, r1, p1⟩ := I.tuple ha
  obtain ⟨ws, r2, p2⟩ := I.tuple hb
  have hsz : us.toArray.size = ws.toArray.size := by
    rw [List.size_toArray, List.size_toArray, ← r1.length, ← r2.length]
    exact Paired.length hp
  refine SeqAt.RcNeAt.tuples (e := fun _ => true) p1.1 p2.1 (by omega) (fun j h1 h2 => ?_) X.prog X.w _ _ ?_
  · have k := eqIs_run I (A := X.A.in1) (by show X.A.units + 1 + 64 < cLine; omega) hp r1 r2 j (by simpa using h1) (by simpa using h2)
    simpa using k
  · rw [show ((List.range (min us.toArray.size ws.toArray.size)).all fun _ => true) = true from List.all_eq_true.mpr fun _ _ => rfl, hsz]
    exact ⟨.bl false, H, I, by simp [L2.RelV], q⟩
theorem op_eqX (hu : X.A.units + 66 < cLine) : OpR X (compareOp .Eq) (rEqX X.K) := by
  intro pins s σ H x y v u Q I rx ry h
  obtain ⟨⟨a, b, xs, ys, rfl, rfl, ha, hb, hp⟩, q⟩ := h
  cases (show v = Value.ref a from rx)
  cases (show u = Value.ref b from ry)
  obtain ⟨us, r1, p1⟩ := I.tuple ha
  obtain ⟨ws, r2, p2⟩ := I.tuple hb
  have hsz : us.toArray.size = ws.toArray.size := by
    rw [List.size_toArray, List.size_toArray, ← r1.length, ← r2.length]
    exact Paired.length hp
  refine SeqAt.RcAt.tuples (e := fun _ => true) p1.1 p2.1 (by omega) (fun j h1 h2 => ?_) X.prog X.w _ _ ?_
  · have k := eqIs_run I (A := X.A.in1) (by show X.A.units + 1 + 64 < cLine; omega) hp r1 r2 j (by simpa using h1) (by simpa using h2)
    simpa using k
  · rw [show ((List.range (min us.toArray.size ws.toArray.size)).all fun _ => true) = true from List.all_eq_true.mpr fun _ _ => rfl, hsz]
    exact ⟨.bl true, H, I, by simp [L2.RelV], q⟩
end Rx
namespace Rx
open PySem PySem.Spec PyProof.Rows L2 Rd
/-! ### classes of exceptions, their __init__(self, value) at fI -/
structure ExcF (K : PySem.W.Frag) (fI C : Addr) : Prop where
  ox : OexC K C
  is : ExcC K C
  iC : PySem.W.findIn K (.ref C) "__init__" = some (some (.ref fI))
  nv : PySem.W.findIn K (.ref C) "value" = some none
  cl : PySem.W.isClsIn K C = true
  self : PySem.W.subIn K (.ref C) (.ref C) = some true
section
variable {K : PySem.W.Frag} {fI C E : Addr} {b : Bool}
theorem kitC (FE : ExcF K fI E) (h : PySem.W.subIn K (.ref C) (.ref E) = some b) : PySem.W.kitCls K (.ref C) (.ref E) = some b := by
  have h2 : (PySem.W.clsIn K E).isSome = true := FE.cl
  have e2 : ((PySem.W.clsIn K E).isSome && PySem.W.typeIn K (.ref E) == some (.type "type")) = true := by
    rw [h2, FE.ox.tyC] <;> rfl
  show (if ((PySem.W.clsIn K E).isSome && PySem.W.typeIn K (.ref E) == some (.type "type")) = true then PySem.W.subIn K (.ref C) (.ref E) else none) = some b
  rw [if_pos e2]
  exact h
theorem kit (FC : ExcF K fI C) (FE : ExcF K fI E) (h : PySem.W.subIn K (.ref C) (.ref E) = some b) : PySem.W.kitOne K (.ref C) (.ref E) = some b := by
  unfold PySem.W.kitOne
  by_cases c : C = E
  · subst c
    rw [FC.self] at h
    cases h
    rw [if_pos (beq_self_eq_true _)]
  · rw [if_neg (fun z => c (by simpa using z))]
    exact kitC FE h
theorem exm (FE : ExcF K fI E) (h : PySem.W.subIn K (.ref C) (.ref E) = some b) : PySem.W.exmOne K (.ref C) (.ref E) = some b := by
  have e1 : (PySem.W.subIn K (.ref E) (.type "BaseException") == some true) = true := by rw [FE.is.hs] <;> rfl
  show (if (PySem.W.subIn K (.ref E) (.type "BaseException") == some true) = true then PySem.W.kitCls K (.ref C) (.ref E) else none) = some b
  rw [if_pos e1]
  exact kitC FE h
end
/-! ### monotone readings -/
def tMono (te : TE) : TE := fun σ H Q => ∃ Q0 : VK, te σ H Q0 ∧ ∀ v H1, Q0 v H1 → Q v H1
theorem pe_mono {X : Cx} {e : Expr} {te : TE} (he : PE X e te) : PE X e (tMono te) := ⟨fun pins s σ H Q I h => by
  obtain ⟨Q0, h, imp⟩ := h
  exact thn (he.run pins s σ H Q0 I h) fun u s1 ⟨v, H1, I1, r1, q⟩ => ⟨v, H1, I1, r1, imp v H1 q⟩⟩
/-! ### raise C(e) -/
/-- self.value = value -/
def spWe (K : PySem.W.Frag) : Sp := fun vs H Q _ => ∃ (a C : Addr) (v : V), vs = [.ref a, v] ∧ OexC K C ∧ PySem.W.findIn K (.ref C) "value" = some none ∧ H a = some (exo a C none) ∧
  ∀ dx, H dx = none → dx ≠ a → Q .non (upd (upd H dx (exd dx [("value", v)])) a (exo a C (some dx)))
/-- behind: the exception's dict d is new and holds v -/
def RaiseQ (C : Addr) (v : V) (H1 : Hp) (Q : XK) : Prop := ∀ (d : Addr) (H2 : Hp), H1 d = none → H2 d = some (.xd [("value", v)]) → (∀ b, b ≠ d → H2 b = H1 b) → Q (.ref C) (some d) H2
def tRaise (C : Addr) (W : WX) (te : TE) : TS := fun _ σ H => te σ H fun v H1 => RaiseQ C v H1 fun cls d H2 => W cls d σ H2
theorem raiseH {C : Addr} {W : WX} {te : TE} {D : Ends} {σ : L2.St} {H : Hp} (h : te σ H fun v H1 => RaiseQ C v H1 fun cls d H2 => W cls d σ H2) : tRaise C W te D σ H := h
/-- what a raised exception leaves: all as it was, and its value in its dict -/
def Raised (C : Addr) (v : V) (H : Hp) (E : XK) : Prop := ∀ (d : Addr) (H2 : Hp), H d = none → H2 d = some (.xd [("value", v)]) → Same H H2 → E (.ref C) (some d) H2
theorem Raised.now {C : Addr} {v : V} {H H1 : Hp} {E : XK} (r : Raised C v H E) (s : Same H H1) : RaiseQ C v H1 E := fun d H2 n e k =>
  r d H2 (s.free n) e fun b o q => (k b (ne_of_none (s _ _ q) n)).trans (s _ _ q)
theorem mk_reads {K : PySem.W.Frag} {fI C : Addr} {te : TE} {σ : L2.St} {H : Hp} {Q : XK} (F : ExcF K fI C) (h : te σ H fun v H1 => RaiseQ C v H1 Q) : tMkO C (spWe K) [] (tCons (tMono te) tNil) σ H Q := by
  refine ⟨_, h, fun v H1 hv => ?_⟩
  refine ⟨(by decide : 1 ≤ 1000), fun a na => ⟨a, C, v, rfl, F.ox, F.nv, upd_same, fun dx ndx ne => ⟨rfl, dx, [("value", v)], upd_same, ?_, ?_, ?_⟩⟩⟩
  · rw [upd_ne ne, upd_same]
  · rw [upd_ne ne] at ndx
    exact ndx
  · rw [upd_ne ne] at ndx
    refine hv dx _ ndx upd_same fun b hb => ?_
    rw [upd_ne hb]
    by_cases c : b = a
    · rw [c, del_same, na]
    · rw [del_ne c, upd_ne c, upd_ne hb, upd_ne c]
section
variable {X : Cx} {x : Str} {e : Expr} {te : TE} {p pos pos2 : Pos} {C fI : Addr} {k : Nat} {fd : FuncData} {W : WX}
theorem ps_raise1 (hc : X.calm = true) (F : ExcF X.K fI C) (tI : PySem.W.typeIn X.K (.ref fI) = some (.type "function")) (F1 : FnOk X.prog X.w X.K X.mg X.base CX0 k fI fd ["self", "value"] (spWe X.K)) (hr : Room (k + 1) X.A) (hb : Binds X.K fd ["self", "value"] [])
    (hg : Gl X x) (hm : X.mg x = some (.ref C)) (tk : Takes X W) (he : PE X e te) (hdb : (x == ("__debug__" : Str)) = false := by decide) (hs : starEach (e :: []) X.env = (false, eval e X.env) :: starEach [] X.env := by rfl) (hpl : (backTo pos (starEach [] X.env)).any (·.1) = false := by rfl) :
    PS X (.Raise (some (.Call (.Name x p) [e] [] pos)) none pos2) (tRaise C W te) :=
  have z := ps_raise (pos := pos2) hc tk (pmk_oex (p := p) (pos := pos) F.ox F.iC tI F1 hr hb .nil (CX := CX0) (fun _ _ _ _ _ _ _ h => h.elim) hg hm (pa_cons (pe_mono he) pa_nil hs) hdb hs hpl)
  ⟨fun pins s σ H D I h => z.run pins s σ H D I (mk_reads F h)⟩
end
/-! ### what is asked of a caught exception -/
def rIsX (K : PySem.W.Frag) (a : Addr) (cls : Value) (d : Option Addr) : List V → Hp → VK → Prop := fun xs H Q => ∃ (D dd : Addr) (fs : List (Str × V)) (c : V) (cv : Value) (b : Bool), cls = .ref D ∧ d = some dd ∧ ExcC K D ∧ H dd = some (.xd fs) ∧ xs = [.ref a, c] ∧
  ClsV c cv ∧ PySem.W.kitOne K (.ref D) cv = some b ∧ Q (.bl b) H
end Rx
namespace PySem.W
open PySem PySem.Spec PySem.Calls PyProof.Rows
section
variable {prog : Program} {w : World} {A : Around} {E : Value → Shared → Prop} {s : Shared} {K : Frag} {x D : Addr} {ox : Obj} {od : Option Obj}
theorem findObj_dataX {C : Addr} {name : Str} {a g : Value} (hc : (clsIn K C).isSome = true) (ha : findIn K (.ref C) name = some (some a)) (hg : specialIn K a "__get__" = some (some g)) (ht : takesIn K a = some true) : findObj K C od name = some (.bind g a) := by
  obtain ⟨cd, hc⟩ := Option.isSome_iff_exists.mp hc
  unfold findObj
  rw [hc, Option.bind_some, ha, Option.bind_some]
  simp [hg, ht]
theorem kin_classX {Q : Option Value → Shared → Prop} (hga : findIn K (.ref D) "__getattribute__" = some (some (.builtin "BaseException.__getattribute__"))) (hgt : findIn K (.ref D) "__getattr__" = some none) (hsub : subIn K (.ref D) (.type "BaseException") = some true)
    (hdct : hasDictIn K D = true) (ha : findIn K (.ref D) "__class__" = some (some (.builtin "object.__class__")))
    (hn : specialIn K (.builtin "object.__class__") "__get__" = some (some (.builtin "getset_descriptor.__get__"))) (htk : takesIn K (.builtin "object.__class__") = some true) (hm : mroIn K D (.type "object") = some true)
    (X : K.In s.heap) (I : InstAt s.heap x ox D od) (h : Q (some (.ref D)) { s with toks := s.toks + 1 }) : wpAny (model prog w) A (getAttr? (.ref x) "__class__") Q E s := by
  have hf : findObj K D od "__class__" = some (.bind (.builtin "getset_descriptor.__get__") (.builtin "object.__class__")) := findObj_dataX (by obtain ⟨cd, hc, _⟩ := any_some hdct; rw [hc]; rfl) ha hn htk
  obtain ⟨hp, g, d, t, os⟩ := s
  have L0 := I.type (M := model prog w)
  have L1 := looks_findIn (M := model prog w) X hga
  have L2 := looks_findIn (M := model prog w) X hgt
  have L3 := looks_find (M := model prog w) X I hf
  have sub : Looks (model prog w) hp (isInstance (.ref x) (.type "BaseException")) true := L0.andThen (looks_subIn X hsub)
  have hx0 : (false && onTheHeap (Value.builtin "BaseException.__getattribute__")) = false := rfl
  have hx2 : (Value.builtin "BaseException.__getattribute__" == Value.builtin "object.__getattribute__") = false := by decide +kernel
  have hx1 : (onTheHeap (Value.ref D) && Value.builtin "BaseException.__getattribute__" == Value.builtin "object.__getattribute__") = false := by rw [hx2]; rfl
  unfold getAttr? getAttrBy? getAttrBy
  refine wpAny_bind (wpAny_mkText (wpAny_bind (wpAny_attempt (wpAny_holding (wpAny_bind (L0.at (wpAny_bind (L1.at ?_))))))))
  show wpAny _ _ (if (onTheHeap (Value.ref D) && Value.builtin "BaseException.__getattribute__" == Value.builtin "object.__getattribute__") = true then _ else _) _ _ _
  rw [hx1, if_neg Bool.false_ne_true]
  unfold getAttrByItsOwn hookBefore
  refine wpAny_bind ?_
  rw [if_pos (show onTheHeap (Value.ref D) = true from rfl)]
  refine L2.at ?_
  refine wpAny_bind (wpAny_attempt (wpAny_holding ?_))
  unfold callGetattribute
  rw [hx0, if_neg Bool.false_ne_true]
  unfold boundAndCalled
  rw [PySem.F.excAttr_ValueError.ga.bind (.ref x)]
  refine wpAny_bind (wpAny_pure ?_)
  show wpAny _ _ (call (.builtin "BaseException.__getattribute__") [.ref x, .str "__class__" t]) _ _ _
  refine wpAny_call (codeAny_call_builtin PySem.F.excAttr_ValueError.ga.plain PySem.F.entry_bexc_ga ?_)
  refine @check_slot (model prog w) _ _ ⟨hp, g, d, t + 1, os⟩ "BaseException.__getattribute__" "BaseException" "__getattribute__" (.ref x) [.str "__class__" t] [] _ (by decide +kernel) (by decide +kernel) sub (PySem.F.args_bexc_ga (.ref x) (.str "__class__" t)) ?_
  unfold Builtin.«object.__getattribute__»
  refine wpAny_bind (wpAny_of_eq (a := ((Value.ref x : Value), [Value.str "__class__" t])) (by first | rfl | (simp only [slotArgs]; rfl)) ?_)
  refine wpAny_bind (wpAny_pure (wpAny_bind (L0.at (wpAny_bind (L3.at ?_)))))
  show wpAny _ _ (holding [Value.builtin "object.__class__"] (call (.builtin "getset_descriptor.__get__") [.builtin "object.__class__", .ref x, .ref D]) >>= ret) _ _ _
  refine wpAny_bind (wpAny_holding (wpAny_call (class_get (s := ⟨hp, g, d, t + 1, os⟩) (ox := ox) (od := od) X I hm ?_)))
  refine wpAny_pure ?_
  show wpAny _ _ (handedOut (.ref D)) _ _ _
  rw [handedOut_of (v := .ref D) rfl]
  first
    | exact wpAny_pure (wpAny_pure h)
    | exact wpAny_pure h
    | exact wpAny_pure (wpAny_bind (wpAny_pure (wpAny_pure h)))
theorem kitx_excX (hga : findIn K (.ref D) "__getattribute__" = some (some (.builtin "BaseException.__getattribute__"))) (hgt : findIn K (.ref D) "__getattr__" = some none) (hsub : subIn K (.ref D) (.type "BaseException") = some true) (hdct : hasDictIn K D = true) (ha : findIn K (.ref D) "__class__" = some (some (.builtin "object.__class__")))
    (hn : specialIn K (.builtin "object.__class__") "__get__" = some (some (.builtin "getset_descriptor.__get__"))) (htk : takesIn K (.builtin "object.__class__") = some true) (hm : mroIn K D (.type "object") = some true) :
    KitX K (.ref x) (.ref D) (fun h => InstAt h x ox D od) where
  ty := fun _ _ _ I => I.type
  it := fun _ _ X _ => by
    obtain ⟨cdD, hcD, _⟩ := any_some hdct
    unfold clsIn at hcD
    split at hcD
    · rename_i c' d' cd' sl' ho
      intro A' Q' E' s' k q
      unfold isType loadHead
      exact wpAny_bind (wpAny_loadPart (k _ _ (X _ _ ho)) (wpAny_pure q))
    · cases hcD
  ne := fun h tp dd its n sl X htp => by
    obtain ⟨cdD, hcD, _⟩ := any_some hdct
    refine Bool.eq_false_iff.mpr fun q => ?_
    have e : D = tp := Value.ref.inj (beq_iff_eq.mp q)
    subst e
    unfold clsIn at hcD
    split at hcD
    · rename_i c' d' cd' sl' ho
      have z := (X _ _ ho).symm.trans htp
      cases z
    · cases hcD
  ca := fun X I k => kin_classX hga hgt hsub hdct ha hn htk hm X I k
end
end PySem.W
namespace Rx
open PySem PySem.Spec PyProof.Rows L2 Rd
theorem call_isX {X : Cx} {a : Addr} {oe : Obj} {cls : Value} {d : Option Addr} {pn : List (Addr × Obj)} (hz : Zc cls d oe) (hf : ∃ vs, oe.data = .fields vs) : CallR (X.suite a ((a, oe) :: pn)) (.builtin "isinstance") (rIsX X.K a cls d) := by
  intro pins s σ H xs us Q I r h
  obtain ⟨D, dd, fs, c, cv, b, rfl, rfl, C, hd, rfl, hcv, e, q⟩ := h
  obtain ⟨u1, u2, rfl, r1, r2⟩ := vals2 r
  cases (show u1 = Value.ref a from r1)
  have ec := hcv.eq r2
  subst ec
  obtain ⟨hget, _⟩ := I.pin (a, oe) (List.mem_append.mpr (.inl List.mem_cons_self))
  obtain ⟨vs, hv⟩ := hf
  have hx : ObjOk X.prog X.w H s.heap dd (.xd fs) := I.hok dd _ hd
  obtain ⟨mA, hns, hr⟩ := hx
  obtain ⟨od, ho, hl⟩ := lookIn_ns hns
  have J : PySem.W.InstAt s.heap a oe D (some od) := ⟨hget, hz.1, by unfold PySem.W.notCls; rw [hv] <;> rfl, by rw [hz.2]; exact ho⟩
  exact PySem.W.kia_one (PySem.W.kitx_excX C.hg C.hk C.hs C.hd C.ha C.hn C.ht C.hm) I.kIn J e (fun z => nomatch z) fun tk => ⟨.bl b, H, I.kept (t' := tk) fun _ _ z => z, rfl, q⟩
theorem isX {K : PySem.W.Frag} {a fI C E dd : Addr} {b : Bool} {fs : List (Str × V)} {H : Hp} {Q : VK} (FC : ExcF K fI C) (FE : ExcF K fI E) (h : PySem.W.subIn K (.ref C) (.ref E) = some b) (hd : H dd = some (.xd fs)) (q : Q (.bl b) H) : rIsX K a (.ref C) (some dd) [.ref a, .ref E] H Q :=
  ⟨C, dd, fs, _, _, b, rfl, rfl, FC.is, hd, rfl, .own E, kit FC FE h, q⟩
/-- e.value -/
def XvG (K : PySem.W.Frag) (a : Addr) (cls : Value) (d : Option Addr) (n : Str) : V → Hp → VK → Prop := fun x H1 Q => x = .ref a ∧ ∃ (C dd : Addr) (fs : List (Str × V)) (v : V), cls = .ref C ∧ d = some dd ∧ ExcC K C ∧ PySem.W.findIn K (.ref C) n = some none ∧ H1 dd = some (.xd fs) ∧ fs.lookup n = some v ∧ Q v H1
def tXv (K : PySem.W.Frag) (a : Addr) (cls : Value) (d : Option Addr) (n : Str) (te : TE) : TE := fun σ H Q => te σ H fun x H1 => XvG K a cls d n x H1 Q
theorem pe_xv {X : Cx} {a : Addr} {oe : Obj} {cls : Value} {d : Option Addr} {pn : List (Addr × Obj)} {e : Expr} {te : TE} {pos : Pos} {n : Str} (hz : Zc cls d oe) (hf : ∃ vs, oe.data = .fields vs) (he : PE (X.suite a ((a, oe) :: pn)) e te)
    (hb : attributeBase e n X.env (eval e X.env) = eval e X.env := by rfl) : PE (X.suite a ((a, oe) :: pn)) (.Attribute e n pos) (tXv X.K a cls d n te) := by
  refine ⟨fun pins s σ H Q I h => ?_⟩
  refine attr_of hb (thn (he.run pins s σ H _ I h) fun u s1 hh => ?_)
  obtain ⟨x, H1, I1, rx, ex, C, dd, fs, v, ec, ed, T, hno, ea, l, q⟩ := hh
  subst ex
  obtain rfl : u = Value.ref a := rx
  subst ec
  subst ed
  obtain ⟨ha, _⟩ := I1.pin (a, oe) (List.mem_append_left _ List.mem_cons_self)
  obtain ⟨vs, hd⟩ := hf
  have hx : ObjOk X.prog X.w H1 s1.heap dd (.xd fs) := I1.hok dd _ ea
  obtain ⟨mA, hns, hr⟩ := hx
  obtain ⟨od, ho, hl⟩ := lookIn_ns hns
  obtain ⟨u, hu, ru⟩ := RelO.some_of (v := v) (o := mA n) (by rw [← l]; exact hr n)
  have J : PySem.W.InstAt s1.heap a oe C (some od) := ⟨ha, hz.1, by unfold PySem.W.notCls; rw [hd] <;> rfl, by rw [hz.2]; exact ho⟩
  exact HandSPX.exc_get I1.kIn J T.hg T.hk T.hs (PySem.W.findObj_own T.hd hno rfl (by rw [hl, hu])) (handed_of ru) ⟨v, H1, I1.tok _, ru, q⟩
theorem xvH {K : PySem.W.Frag} {a : Addr} {cls : Value} {d : Option Addr} {n : Str} {te : TE} {σ : L2.St} {H : Hp} {Q : VK} (h : te σ H fun x H1 => XvG K a cls d n x H1 Q) : tXv K a cls d n te σ H Q := h
theorem xv {K : PySem.W.Frag} {a fI C dd : Addr} {v : V} {H : Hp} {Q : VK} (F : ExcF K fI C) (hd : H dd = some (.xd [("value", v)])) (q : Q v H) : XvG K a (.ref C) (some dd) "value" (.ref a) H Q :=
  ⟨rfl, C, dd, _, v, rfl, rfl, F.is, F.nv, hd, by simp [List.lookup], q⟩
/-- the clause names the class that it is -/
theorem caught {K : PySem.W.Frag} {fI C E : Addr} {i : Nat} {ts : Addr → Value → Option Addr → TS} {Wout : WX} {D : Ends} {d : Option Addr} {σ : L2.St} {H : Hp} (FE : ExcF K fI E) (h : PySem.W.subIn K (.ref C) (.ref E) = some true)
    (q : ∀ a, H a = none → ts a (.ref C) d { nx := fun σ' H' => D.nx (σ'.set i none) H', rt := D.rt, bk := fun σ' H' => D.bk (σ'.set i none) H', ct := fun σ' H' => D.ct (σ'.set i none) H' } (σ.set i (some (.ref a))) H) : wAs K (.ref E) i ts Wout D (.ref C) d σ H :=
  ⟨true, exm FE h, fun _ a na => q a na, fun z => nomatch z⟩
theorem callS {sp : Sp} {E : L2.St → XK} {t : TA} {σ : L2.St} {H : Hp} {Q : VK} (h : t σ H fun vs H1 => sp vs H1 Q (E σ)) : tCallS sp E t σ H Q := h
end Rx
namespace Rx
open PySem PySem.Spec PyProof.Rows L2 Rd
/-- an __init__(self, value=None) called with both -/
theorem binds2 {K : PySem.W.Frag} {x qual : Str} {params : Arguments} {body : List Stmt} {scope : Scope} {f : Addr} {fd : FuncData} (F : FunD K x qual params body scope [.non] [] f fd)
    (h : ∀ (T : Addr) (kV doc pm : Value) (an : Option Addr) (cdv ct : Value) (us its : List Value), us.length = 2 → its.length = 1 →
      ∃ k, bindArgs (PySem.W.fnOf x qual params body scope (.ref T) kV doc pm an cdv ct) ⟨us, []⟩ = seqItems? (.ref T) >>= k ∧ k (some its.toArray) = pure ((["self", "value"] : List Str).zip (us ++ its.drop 1))) : Binds K fd ["self", "value"] [] := by
  obtain ⟨ds, r, b⟩ := F.binds1 (ps := ["self", "value"]) 2 1 (by simp) rfl h
  cases r
  exact b
end Rx
namespace Rx
open PySem PySem.Spec PyProof.Rows L2 Rd
theorem u66 {k : Nat} {A : Around} (h : Room k A) : A.units + 66 < cLine := by have := h.un; omega
/-! ### text * int -/
def nRepS : R2 := fun x y H Q => ∃ (z : Str) (n : Int), x = .str z ∧ y = .int n ∧ MulOk z n ∧ Q (.str (Txt.mul z n)) H
theorem o_repS {X : Cx} : OpR X (binaryOp .Mult) nRepS := by
  intro pins s σ H x y v u Q I rx ry h
  obtain ⟨z, n, rfl, rfl, hok, q⟩ := h
  obtain ⟨t, rfl⟩ := rx
  obtain ⟨t', rfl⟩ := ry
  exact SB.mul hok fun t' k => ⟨.str (Txt.mul z n), H, I.tok _, ⟨_, rfl⟩, q⟩
theorem repS {z : Str} {n : Int} {H : Hp} {Q : VK} (hok : MulOk z n) (q : Q (.str (Txt.mul z n)) H) : nRepS (.str z) (.int n) H Q := ⟨z, n, rfl, rfl, hok, q⟩
/-! ### things with their items -/
/-- what stands at a value, and at its items -/
def Rowed (H : Hp) (x : V) (k : Kd) (ks : List Kd) : Prop := Is H x k ∧ ∀ xs, k = .lst xs ∨ k = .tup xs → Paired (Is H) xs ks
theorem paired_same {H H' : Hp} (s : Same H H') {xs : List V} {ks : List Kd} (h : Paired (Is H) xs ks) : Paired (Is H') xs ks := by
  induction h with
  | nil => exact .nil
  | cons a _ ih => exact .cons (a.same s) ih
theorem Rowed.same {H H' : Hp} {x : V} {k : Kd} {ks : List Kd} (s : Same H H') (h : Rowed H x k ks) : Rowed H' x k ks := ⟨h.1.same s, fun xs e => paired_same s (h.2 xs e)⟩
/-- an address that is not t's -/
def Off (t : Addr) (x : V) : Prop := x ≠ .ref t
theorem off_ref {t a : Addr} (h : a ≠ t) : Off t (.ref a) := fun e => h (V.ref.inj e)
theorem Is.but {t : Addr} {H H' : Hp} {x : V} {k : Kd} (b : Rd.But t H H') (o : Off t x) (h : Is H x k) : Is H' x k := by
  cases h with
  | non => exact .non
  | bl b => exact .bl b
  | int i => exact .int i
  | str l => exact .str l
  | lst h l => exact .lst (b _ _ (fun e => o (by rw [e])) h) l
  | tup h l => exact .tup (b _ _ (fun e => o (by rw [e])) h) l
  | dct h => exact .dct (b _ _ (fun e => o (by rw [e])) h)
theorem paired_but {t : Addr} {H H' : Hp} (b : Rd.But t H H') {xs : List V} {ks : List Kd} (h : Paired (Is H) xs ks) : (∀ y ∈ xs, Off t y) → Paired (Is H') xs ks := by
  induction h with
  | nil => exact fun _ => .nil
  | cons a _ ih => exact fun o => .cons (a.but b (o _ (List.mem_cons_self ..))) (ih fun y m => o y (List.mem_cons_of_mem _ m))
/-- a thing of some kind, its items too; none of them is the object at t (the tape) -/
def Thing (t : Addr) (H : Hp) (x : V) : Prop := ∃ k ks, Rowed H x k ks ∧ Off t x ∧ ∀ xs, k = .lst xs ∨ k = .tup xs → ∀ y ∈ xs, Off t y
theorem Thing.same {t : Addr} {H H' : Hp} {x : V} (s : Same H H') (h : Thing t H x) : Thing t H' x := let ⟨k, ks, r, o⟩ := h; ⟨k, ks, r.same s, o⟩
theorem Thing.but {t : Addr} {H H' : Hp} {x : V} (b : Rd.But t H H') (h : Thing t H x) : Thing t H' x := let ⟨k, ks, r, o, p⟩ := h; ⟨k, ks, ⟨r.1.but b o, fun xs e => paired_but b (r.2 xs e) (p xs e)⟩, o, p⟩
theorem flat {t : Addr} {H : Hp} {x : V} {k : Kd} (h : Is H x k) (n : k.isSeq = false) (o : Off t x := by intro e; cases e) : Thing t H x := ⟨k, [], ⟨h, fun xs e => by rcases e with rfl | rfl <;> cases n⟩, o, fun xs e => by rcases e with rfl | rfl <;> cases n⟩
/-- an item -/
def Item (t : Addr) (H : Hp) (x : V) : Prop := (∃ k, Is H x k) ∧ Off t x
theorem item {t : Addr} {H : Hp} {x : V} {k : Kd} (h : Is H x k) (o : Off t x := by intro e; cases e) : Item t H x := ⟨⟨k, h⟩, o⟩
theorem Item.same {t : Addr} {H H' : Hp} {x : V} (s : Same H H') (h : Item t H x) : Item t H' x := let ⟨⟨k, i⟩, o⟩ := h; ⟨⟨k, i.same s⟩, o⟩
theorem Item.but {t : Addr} {H H' : Hp} {x : V} (b : Rd.But t H H') (h : Item t H x) : Item t H' x := let ⟨⟨k, i⟩, o⟩ := h; ⟨⟨k, i.but b o⟩, o⟩
theorem kinds {t : Addr} {H : Hp} : ∀ {xs : List V}, (∀ x ∈ xs, Item t H x) → ∃ ks, Paired (Is H) xs ks
  | [], _ => ⟨[], .nil⟩
  | x :: xs, h => let ⟨⟨k, i⟩, _⟩ := h x (List.mem_cons_self ..); let ⟨ks, r⟩ := kinds fun y m => h y (List.mem_cons_of_mem _ m); ⟨k :: ks, .cons i r⟩
theorem seqL {t : Addr} {H : Hp} {a : Addr} {xs : List V} (h : H a = some (.lst xs)) (o : a ≠ t) (l : xs.length ≤ 1000000) (i : ∀ x ∈ xs, Item t H x) : Thing t H (.ref a) :=
  let ⟨ks, r⟩ := kinds i; ⟨_, ks, ⟨.lst h l, fun ys e => by rcases e with e | e <;> cases e; exact r⟩, off_ref o, fun ys e => by rcases e with e | e <;> cases e; exact fun y m => (i y m).2⟩
theorem seqT {t : Addr} {H : Hp} {a : Addr} {xs : List V} (h : H a = some (.tup xs)) (o : a ≠ t) (l : xs.length ≤ 1000000) (i : ∀ x ∈ xs, Item t H x) : Thing t H (.ref a) :=
  let ⟨ks, r⟩ := kinds i; ⟨_, ks, ⟨.tup h l, fun ys e => by rcases e with e | e <;> cases e; exact r⟩, off_ref o, fun ys e => by rcases e with e | e <;> cases e; exact fun y m => (i y m).2⟩
theorem all_nil {P : V → Prop} : ∀ x ∈ ([] : List V), P x := fun _ h => nomatch h
theorem all_cons {P : V → Prop} {x : V} {xs : List V} (h : P x) (t : ∀ y ∈ xs, P y) : ∀ y ∈ x :: xs, P y := fun y m => by
  rcases List.mem_cons.mp m with rfl | m
  · exact h
  · exact t y m
theorem paired_get {R : V → Kd → Prop} {xs : List V} {ks : List Kd} (h : Paired R xs ks) : ∀ {i : Nat} {x : V}, xs[i]? = some x → ∃ k, ks[i]? = some k ∧ R x k := by
  induction h with
  | nil => intro i x e; simp at e
  | cons a _ ih =>
    intro i x e
    cases i with
    | zero => cases e; exact ⟨_, rfl, a⟩
    | succ i => exact ih e
/-! ### range(i, j, c) upwards -/
/-- how many -/
def cnt (i j c : Int) : Nat := if i < j then ((j - i - 1) / c + 1).toNat else 0
theorem rg_pos {i j c : Int} (c0 : 0 < c) (c1 : c < 1073741824) (hi : 0 ≤ i) (hi' : i < 2 ^ 62) (hj : 0 ≤ j) (hj' : j < 2 ^ 62) : RgC i j c (cnt i j c) := by
  have e : Builtin.Range.rangeSize i j c = (cnt i j c : Nat) := by
    unfold Builtin.Range.rangeSize cnt
    rw [if_pos c0]
    split
    · have : 0 ≤ (j - i - 1) / c := Int.ediv_nonneg (by omega) (by omega)
      omega
    · rfl
  have hb : (cnt i j c : Int) ≤ 2 ^ 62 + 1 := by
    unfold cnt
    split
    · have h1 : 0 ≤ (j - i - 1) / c := Int.ediv_nonneg (by omega) (by omega)
      have h2 : (j - i - 1) / c ≤ j - i - 1 := Int.ediv_le_self _ (by omega)
      omega
    · decide
  refine ⟨by omega, by omega, ?_, e⟩
  unfold Builtin.Range.small
  rw [e]
  simp only [Builtin.Range.rangeFitsLong, Bool.and_eq_true, Bool.or_eq_true, decide_eq_true_eq, beq_iff_eq]
  rw [if_pos c0]
  simp only [Bool.and_eq_true, decide_eq_true_eq]
  omega
theorem cnt_lt {i j c : Int} (c0 : 0 < c) (k : Nat) : k < cnt i j c ↔ i + (k : Int) * c < j := by
  unfold cnt
  split
  · rename_i h
    have h1 : 0 ≤ (j - i - 1) / c := Int.ediv_nonneg (by omega) (by omega)
    have e : k < ((j - i - 1) / c + 1).toNat ↔ (k : Int) ≤ (j - i - 1) / c := by omega
    rw [e, Int.le_ediv_iff_mul_le c0]
    omega
  · have : 0 ≤ (k : Int) * c := Int.mul_nonneg (by omega) (by omega)
    omega
theorem rng3 {ta : TA} {σ : L2.St} {H : Hp} {R : It → Hp → Prop} (h : ta σ H fun vs H1 => ∃ (i j c : Int) (n : Nat), vs = [.int i, .int j, .int c] ∧ RgC i j c n ∧ R (Itc i c n) H1) : iRng3 ta σ H R := h
end Rx
namespace Rx
open PySem PySem.Spec PyProof.Rows L2 Rd
/-! ### {k: v} written out -/
theorem disp {trs : List (TE × TE)} {σ : L2.St} {H : Hp} {Q : VK} (h : ∀ (p : Addr) (G : Hp), H p = none → G p = some (.dK []) → Same H G → tPairs trs σ G fun ps H2 => H2 p = some (.dK []) ∧ ∃ kvs : List (Key × V), ps = kvs.map (fun kv => (kV kv.1, kv.2)) ∧ kvs.length ≤ 15 ∧
    ∀ G2 : Hp, G2 p = some (.dK (mergeK [] kvs)) → (∀ b, b ≠ p → G2 b = H2 b) → Q (.ref p) G2) : tDisp trs σ H Q := fun p hp => by
  have key := h p _ hp upd_same (same_upd hp)
  have mono : ∀ {trs : List (TE × TE)} {σ : L2.St} {H : Hp} {A B : List (V × V) → Hp → Prop}, A = B → tPairs trs σ H A → tPairs trs σ H B := fun e h => e ▸ h
  refine mono ?_ key
  funext ps H2
  refine propext ⟨fun ⟨a, kvs, b, c, d⟩ => ⟨a, kvs, b, c, d _ upd_same fun b hb => upd_ne hb⟩, fun ⟨a, kvs, b, c, d⟩ => ⟨a, kvs, b, c, fun G2 g off => ?_⟩⟩
  have e : G2 = upd H2 p (.dK (mergeK [] kvs)) := by
    funext x
    by_cases q : x = p
    · rw [q, g, upd_same]
    · rw [off x q, upd_ne q]
  rw [e]
  exact d
theorem pair {tk tv : TE} {r : List (TE × TE)} {σ : L2.St} {H : Hp} {Q : List (V × V) → Hp → Prop} (h : tk σ H fun x H1 => tv σ H1 fun y H2 => tPairs r σ H2 fun ps H3 => Q ((x, y) :: ps) H3) : tPairs ((tk, tv) :: r) σ H Q := h
theorem pair0 {σ : L2.St} {H : Hp} {Q : List (V × V) → Hp → Prop} (h : Q [] H) : tPairs [] σ H Q := h
theorem same_off2 {H G G2 : Hp} {p : Addr} (s : Same H G) (np : H p = none) (off : ∀ b, b ≠ p → G2 b = G b) : Same H G2 := fun b o e => by rw [off b (ne_of_none e np)]; exact s b o e
end Rx
namespace Rx
open PySem PySem.Spec PyProof.Rows L2 Rd
theorem eqI_refl {K : PySem.W.Frag} {H : Hp} {y : V} {k : Kd} (h : Is H y k) : EqI K H y y := by
  cases h with
  | non => exact .inl ⟨rfl, rfl⟩
  | bl b => exact .inl ⟨rfl, rfl⟩
  | int i => exact .inl ⟨rfl, rfl⟩
  | str l => exact .inl ⟨rfl, rfl⟩
  | lst h l => exact .inr (.inl ⟨_, rfl, rfl⟩)
  | tup h l => exact .inr (.inl ⟨_, rfl, rfl⟩)
  | dct h => exact .inr (.inl ⟨_, rfl, rfl⟩)
end Rx

/-! An instance made within a try: what its __init__ raises is caught here. -/
namespace Rm
open PySem PySem.Spec PyProof.Rows L2
variable {X : Cx} {CX : CXT} {k : Nat} {f C : Addr} {fd : FuncData} {ps : List Str} {sp : Sp} {E : L2.St → XK} {σ : L2.St} {H : Hp} {s : Shared} {Q : VK} {pins : List (Addr × Obj)}
theorem go {vs : List V} {us : List Value} (mk : Mk X.K C f) (ok : FnOk X.prog X.w X.K X.mg X.base CX k f fd ps sp) (room : Room (k + 1) X.A) (bd : Binds X.K fd ps []) (pa : PassesAt CX X σ (E σ)) (inv : Inv X pins σ H s) (va : Vals vs us)
    (h : Rd.MkG C sp [] (E σ) vs H Q) : wpAny (model X.prog X.w) X.A (call (.ref C) us) (EP X pins σ Q) X.xe s := by
  have free : ∀ m, s.heap.objs.size ≤ m → H m = none := fun m l => inv.hok.fresh l
  have q := h _ _ (free (s.heap.objs.size + 1) (by omega)) (free s.heap.objs.size (by omega)) (fun e => Nat.lt_irrefl _ (Nat.lt_of_lt_of_eq (Nat.lt_succ_self s.heap.objs.size) e.symm))
  rw [List.append_nil] at q
  have inv' := inv.made (C := C)
  have va' : Vals (V.ref (s.heap.objs.size + 1) :: vs) (Value.ref (s.heap.objs.size + 1) :: us) := .cons rfl va
  have bd' := bd _ (Value.ref (s.heap.objs.size + 1) :: us) inv'.kIn (by rw [List.append_nil, ← va'.length]; exact ok.len _ _ _ _ q)
  rw [List.append_nil] at bd'
  have run := ok.run _ X.stack _ _ ⟨Value.ref (s.heap.objs.size + 1) :: us, []⟩ _ _ _ (E σ) (room.make C us []) (inv'.env0.make C us []) bd' va' q
  refine wpAny_call (make_map (f := f) inv.kIn mk.makes mk.init (beq_iff_eq.mp mk.fn) (codeAny_mono run fun end_ s' fin => ?_))
  match end_, fin with
  | .error e, fin => exact pa pins _ _ e s' inv' fin
  | .ok (.ret u), fin =>
    obtain ⟨v, H', inv2, rv, ev, last⟩ := inv'.after fin
    subst ev
    exact ⟨rv, ⟨V.ref (s.heap.objs.size + 1), H', inv2, rfl, last⟩⟩
  | .ok .next, fin => exact fin.elim
  | .ok .brk, fin => exact fin.elim
  | .ok .cont, fin => exact fin.elim
/-- C(e, ..), the ends of __init__ as E tells them of the state -/
def tMakeS (C : Addr) (sp : Sp) (E : L2.St → XK) (t : TA) : TE := fun σ H Q => t σ H fun vs H1 => Rd.MkG C sp [] (E σ) vs H1 Q
theorem mkH {t : TA} (h : t σ H fun vs H1 => Rd.MkG C sp [] (E σ) vs H1 Q) : tMakeS C sp E t σ H Q := h
theorem pe_makeS {x : Str} {p pos : Pos} {e : Expr} {es : List Expr} {t : TA} (mk : Mk X.K C f) (ok : FnOk X.prog X.w X.K X.mg X.base CX k f fd ps sp) (room : Room (k + 1) X.A) (gl : Gl X x) (at_ : X.mg x = some (.ref C)) (bd : Binds X.K fd ps []) (pa : ∀ σ, PassesAt CX X σ (E σ))
    (args : PA X (e :: es) t) (d1 : (x == ("__debug__" : Str)) = false := by decide) (d2 : starEach (e :: es) X.env = (false, eval e X.env) :: starEach es X.env := by rfl) (d3 : (backTo pos (starEach es X.env)).any (·.1) = false := by rfl) :
    PE X (.Call (.Name x p) (e :: es) [] pos) (tMakeS C sp E t) :=
  ⟨fun pins s σ H Q inv h => wpAny_Call_Name_kw (ld_glob inv gl at_ (PySem.W.callWith_K (h₀ := X.base) inv.ok.mod.kin mk.kp (thn (args.run pos pins s σ H _ inv h) fun us s1 ⟨vs, H1, inv1, va, q⟩ => ⟨inv1.kIn, go mk ok room bd (pa σ) inv1 va q⟩) d2 d3) d1)⟩
end Rm

/-! Methods that may raise; an expression of one of two readings. -/
namespace Rq
open PySem PySem.Spec PyProof.Rows L2 Rd
section
variable {X : Cx} {CX : CXT} {k : Nat} {f C : Addr} {fd : FuncData} {ps : List Str} {sp : Sp} {E : L2.St → XK} {m : Str} {pos apos : Pos} {e o : Expr} {es : List Expr} {ta : TE} {t : TA}
/-- one of two readings -/
theorem pe_or {u v : TE} (a : PE X e u) (b : PE X e v) : PE X e (fun σ H Q => u σ H Q ∨ v σ H Q) := ⟨fun pins s σ H Q I h => h.elim (a.run pins s σ H Q I) (b.run pins s σ H Q I)⟩
def tMethS (C : Addr) (m : Str) (sp : Sp) (E : L2.St → XK) (ta : TE) (t : TA) : TE := fun σ H Q => ta σ H fun x H1 => Rd.MethG C m x H1 (t σ H1 fun vs H2 => sp (x :: vs) H2 Q (E σ))
theorem methS {C : Addr} {m : Str} {sp : Sp} {E : L2.St → XK} {ta : TE} {t : TA} {σ : L2.St} {H : Hp} {Q : VK} (h : ta σ H fun x H1 => Rd.MethG C m x H1 (t σ H1 fun vs H2 => sp (x :: vs) H2 Q (E σ))) : tMethS C m sp E ta t σ H Q := h
/-- o.m(e, ..), which may raise -/
theorem pe_methS {pl : Sem Bool} (he : PE X o ta) (c : Cls X.K C) (hm : Meth X.K C m f) (F : FnOk X.prog X.w X.K X.mg X.base CX k f fd ps sp) (hr : Room k X.A) (hb : Binds X.K fd ps []) (hx : ∀ σ, PassesAt CX X σ (E σ)) (ha : PA X (e :: es) t)
    (hst : starEach (e :: es) X.env = (false, eval e X.env) :: starEach es X.env := by rfl) (hpl : (backTo pos (starEach es X.env)).any (·.1) = false := by rfl)
    (ht : eval (.Call (.Attribute o m apos) (e :: es) [] pos) X.env = (do
      let ov ← eval o X.env
      standAt apos.atName
      let (f, first) ← holding [ov] (getMethod ov m pl)
      callWith pos f first (backTo pos (starEach (e :: es) X.env)) (backToKw pos (keywordEach [] X.env))) := by rfl) :
    PE X (.Call (.Attribute o m apos) (e :: es) [] pos) (tMethS C m sp E ta t) := ⟨fun pins s σ H Q I h => by
  refine PySem.W.methodCall_KW (pl := pl) (thn (he.run pins s σ H _ I h) fun u s1 hu => ?_) ht
  obtain ⟨x, H1, I1, rx, a, dx, fs, rfl, ea, l, q⟩ := hu
  obtain rfl : u = Value.ref a := rx
  refine getmeth_ok I1 ea c hm l (PySem.W.callWith_K (first := [.ref a]) (h₀ := X.base) I.ok.mod.kin hm.kp (thn (ha.run pos pins s1 σ H1 _ I1 q) fun us s2 hv => ?_) hst hpl)
  obtain ⟨vs, H2, I2, r, q2⟩ := hv
  exact ⟨I2.kIn, run_fnS (us := .ref a :: us) (vs := .ref a :: vs) F hr hb (hx σ) I2 (.cons rfl r) q2⟩⟩
end
/-! ### a caught exception asked for a built-in class -/
theorem kitOwn {K : PySem.W.Frag} {C : Addr} {T : String} {r : Bool} (m : PySem.W.kitMeta T = true) (h : PySem.W.mroIn K C (.type T) = some r) : PySem.W.kitOne K (.ref C) (.type T) = some r := by
  show (if (Value.ref C == Value.type T) = true then some true else if PySem.W.kitMeta T = true then PySem.W.subIn K (.ref C) (.type T) else none) = some r
  rw [if_neg (by simp), if_pos m]
  exact h
theorem isXB {K : PySem.W.Frag} {a fI C dd : Addr} {T : String} {b : Bool} {fs : List (Str × V)} {H : Hp} {Q : VK} (FC : Rx.ExcF K fI C) (m : PySem.W.kitMeta T = true) (h : PySem.W.mroIn K C (.type T) = some b) (hd : H dd = some (.xd fs)) (q : Q (.bl b) H) : Rx.rIsX K a (.ref C) (some dd) [.ref a, .ty T] H Q :=
  ⟨C, dd, fs, _, _, b, rfl, rfl, FC.is, hd, rfl, .ty T, kitOwn m h, q⟩
/-! ### what was raised, where the heap has grown -/
theorem raised_same {C : Addr} {v : V} {H G : Hp} {E : XK} (r : Rx.Raised C v H E) (s : Same H G) : Rx.Raised C v G E := fun d H2 nd hd s2 => r d H2 (s.free nd) hd (s.trans s2)
end Rq

/-! == and != of own objects by an own __eq__, either answer; the other may be anything. -/
namespace Ro
open PySem PySem.Spec PySem.W PyProof.Rows
section
variable {M : Model} {prog : Program} {w : World} {A : Around} {E : Value → Shared → Prop} {s : Shared} {K : Frag} {x C L f : Addr} {h₀ : Heap} {m : Str → Option Value} {ox : Obj} {od : Option Obj} {b tb : Value}
theorem entry_ne (X : K.In s.heap) (I : InstAt s.heap x ox C od) (hs : findIn K (.ref C) "__eq__" = some (some (.ref f))) (hf : isFn K (.ref f) = true) (hu : A.units < cLine) {Q : Fin → Shared → Prop}
    (hcall : wpAny (model prog w) A (call (.ref f) [.ref x, b]) (fun v s' => ∃ k, v = .bool k ∧ Q (.done (.ret (.bool (!k)))) s') E s) :
    wpAny (model prog w) A (Builtin.«object.__ne__» ⟨[.ref x, b], []⟩) Q E s := by
  unfold Builtin.«object.__ne__»
  repeat (first
    | with_reducible refine wpAny_cRoomFor hu ?_
    | (refine wpAny_bind (m := callSpecialIfBound? (.ref x) (Str.ofString "__eq__") [b])
        (ifBound_K X I hs hf (wpAny_mono hcall (fun r s' hr => by
          obtain ⟨b, rfl, hq⟩ := hr
          repeat (first | exact hq | exact wpAny_pure hq | exact wpAny_truthy_bool hq | (refine wpAny_bind (m := truthy (.bool _)) (wpAny_truthy_bool ?_)) | wp_step)) fun _ _ e => e)))
    | wp_step)
theorem ifBound_ne {args : List Value} {Q : Option Value → Shared → Prop} (X : K.In s.heap) (I : InstAt s.heap x ox C od) (hs : findIn K (.ref C) "__ne__" = some (some (.builtin "object.__ne__")))
    (h : wpAny M A (call (.builtin "object.__ne__") (.ref x :: args)) (fun v => Q (some v)) E s) : wpAny M A (callSpecialIfBound? (.ref x) "__ne__" args) Q E s := by
  simp only [callSpecialIfBound?, bindSpecialIfBound?]
  refine wpAny_holding (wpAny_bind (wpAny_bind (wpAny_bind (I.type.here ((looks_findIn X hs).here ?_)))))
  refine wpAny_bind (wpAny_askSetting (wpAny_ite ?_))
  have fin : wpAny M A (call (.builtin "object.__ne__") ([.ref x] ++ args) >>= fun v => pure (some v)) Q E s := wpAny_bind (wpAny_mono h (fun v s' h' => wpAny_pure h') fun _ _ h' => h')
  split
  · exact wpAny_bind (wpAny_of_eq (F.cmp_object.ne.bind _) (wpAny_pure (by exact fin)))
  · exact wpAny_tryCatch (wpAny_bind (wpAny_of_eq (F.cmp_object.ne.bind _) (wpAny_pure (by exact fin))))
theorem call_ne {Q : Value → Shared → Prop} (X : K.In s.heap) (I : InstAt s.heap x ox C od) (hm : mroIn K C (.type "object") = some true) (hs : findIn K (.ref C) "__eq__" = some (some (.ref f))) (hf : isFn K (.ref f) = true) (hu : A.units + 1 < cLine)
    (hcall : wpAny (model prog w) A.in1 (call (.ref f) [.ref x, b]) (fun v s' => ∃ k, v = .bool k ∧ Q (.bool (!k)) s') E s) :
    wpAny (model prog w) A (call (.builtin "object.__ne__") [.ref x, b]) Q E s :=
  wpAny_call (codeAny_call_builtin F.cmp_object.ne.plain F.cmpEntry_ne (check_slot F.cmpKind_ne F.cmpSplit_ne (I.type.andThen (looks_mroIn X hm)) (F.cmpArgs_ne _ _) (entry_ne (A := A.in1) X I hs hf hu (wpAny_mono hcall (fun v s' hv => hv) fun _ _ e => e))))
theorem ne_K {Q : Value → Shared → Prop} (hu : A.units + 1 < cLine) (X : K.In s.heap) (I : InstAt s.heap x ox C od) (hm : mroIn K C (.type "object") = some true) (hb : Looks (model prog w) s.heap (typeOf b) tb) (hn : notFirst K C tb = true)
    (hne : findIn K (.ref C) "__ne__" = some (some (.builtin "object.__ne__"))) (hs : findIn K (.ref C) "__eq__" = some (some (.ref f))) (hf : isFn K (.ref f) = true)
    (h : wpAny (model prog w) A.in1 (call (.ref f) [.ref x, b]) (fun v s' => ∃ k, v = .bool k ∧ Q (.bool (!k)) s') E s) : wpAny (model prog w) A (richCompare .NotEq (.ref x) b) Q E s := by
  have one : wpAny (model prog w) A (tryCompare (.ref x) "__ne__" b) (fun r s' => ∃ v, r = some v ∧ Q v s') E s := by
    unfold tryCompare
    refine wpAny_bind (ifBound_ne X I hne (call_ne X I hm hs hf hu (wpAny_mono h (fun v s' hv => ?_) fun _ _ e => e)))
    obtain ⟨k, rfl, q⟩ := hv
    exact ⟨k, rfl, wpAny_pure ⟨_, rfl, q⟩⟩
  unfold richCompare
  rw [cmpInfo_NotEq]
  simp only [oneThing_ref]
  refine wpAny_holding (wpAny_bind (wpAny_cRoomFor (Nat.lt_of_succ_lt hu) ?_))
  refine wpAny_bind (I.type.here (wpAny_bind (hb.here ?_)))
  split
  · rename_i q
    have e : subIn K tb (.ref C) = some false := by
      rcases Bool.or_eq_true_iff.mp hn with e | e
      · rw [beq_iff_eq.mp e] at q; simp at q
      · exact beq_iff_eq.mp e
    refine wpAny_bind ((looks_subIn X e).here ?_)
    simp only [Bool.false_eq_true, if_false]
    refine wpAny_bind (wpAny_mono one (fun r s' z => ?_) fun _ _ e => e)
    obtain ⟨v, rfl, hq⟩ := z
    exact wpAny_pure hq
  · refine wpAny_bind (wpAny_pure ?_)
    simp only [Bool.false_eq_true, if_false]
    refine wpAny_bind (wpAny_mono one (fun r s' z => ?_) fun _ _ e => e)
    obtain ⟨v, rfl, hq⟩ := z
    exact wpAny_pure hq
end
end Ro
namespace Ro
open PySem PySem.Spec PyProof.Rows L2 Rd
/-- what == and != ask of an own class with an own __eq__ at f -/
structure OwnE (K : PySem.W.Frag) (C f : Addr) : Prop where
  eq : PySem.W.findIn K (.ref C) "__eq__" = some (some (.ref f))
  fn : PySem.W.isFn K (.ref f) = true
  ne : PySem.W.findIn K (.ref C) "__ne__" = some (some (.builtin "object.__ne__"))
  hm : PySem.W.mroIn K C (.type "object") = some true
section
variable {X : Cx} {n : Nat} {CX : CXT} {C f : Addr} {fd : FuncData} {ps : List Str} {sp : Sp} {E : XK}
/-- own == of two instances of C -/
def rOE (C : Addr) (sp : Sp) (E : XK) (g : Bool → Bool) : R2 := fun x y H Q => ∃ a b dx dy fs gs, x = .ref a ∧ y = .ref b ∧ H a = some (.ins C dx fs) ∧ H b = some (.ins C dy gs) ∧ sp [x, y] H (fun v H' => ∃ k, v = .bl k ∧ Q (.bl (g k)) H') E
theorem run_eq {A : Around} (F : FnOk X.prog X.w X.K X.mg X.base CX n f fd ps sp) (hb : Binds X.K fd ps []) (hx : Passes CX X E) (hr : Room n A) (hfr : A.frames = X.A.frames)
    {pins : List (Addr × Obj)} {s : Shared} {σ : L2.St} {H : Hp} {x y : V} {v u : Value} {R : VK} (I : Inv X pins σ H s) (rx : RelV x v) (ry : RelV y u) (hsp : sp [x, y] H R E) :
    wpAny (model X.prog X.w) A (call (.ref f) [v, u]) (EP X pins σ R) X.xe s := by
  have e0 : Env0 X.prog X.w X.K X.mg X.base A X.stack s H := by
    have e := I.env0
    exact ⟨by rw [hfr]; exact e.frames, e.mod, e.bs, e.bsz, e.funs, e.frf, e.hok, e.bare⟩
  have hl := F.len _ _ _ _ hsp
  have r2 : Vals [x, y] [v, u] := .cons rx (.cons ry .nil)
  refine wpAny_call (codeAny_mono (F.run A X.stack s H ⟨[v, u], []⟩ [v, u] [x, y] _ E hr e0 (by
    have := hb s [v, u] I.kIn (by simpa using hl)
    simpa using this) r2 hsp) fun r s' hq => ?_)
  cases r with
  | error e => exact hx pins σ H s e s' I hq
  | ok fl =>
    cases fl with
    | ret w => exact I.after hq
    | next => exact False.elim hq
    | brk => exact False.elim hq
    | cont => exact False.elim hq
theorem op_oe (O : OwnE X.K C f) (F : FnOk X.prog X.w X.K X.mg X.base CX n f fd ps sp) (hb : Binds X.K fd ps []) (hx : Passes CX X E) (hr : Room n X.A) : OpR X (compareOp .Eq) (rOE C sp E id) := by
  intro pins s σ H x y v u Q I rx ry hq
  obtain ⟨a, b, dx, dy, fs, gs, rfl, rfl, ha, hb', hsp⟩ := hq
  cases rx
  cases ry
  obtain ⟨mA, J, _⟩ := ins_get I.hok ha
  obtain ⟨mB, J', _⟩ := ins_get I.hok hb'
  obtain ⟨od, J, _⟩ := J.look
  obtain ⟨od', J', _⟩ := J'.look
  obtain ⟨m, hF⟩ := I.fr
  refine PySem.W.cmp_K (op := .Eq) (tb := .ref C) hr.units0 hF I.ok.mod.kin J J'.type (by simp [PySem.W.notFirst]) O.eq O.fn ?_
  refine wpAny_mono (run_eq F hb hx hr rfl I (x := .ref a) (y := .ref b) rfl rfl hsp) (fun r s' z => ?_) fun _ _ e => e
  obtain ⟨z, H', I', rz, k, ez, q⟩ := z
  subst ez
  cases rz
  exact ⟨.bl k, H', I', rfl, q⟩
theorem op_one (O : OwnE X.K C f) (F : FnOk X.prog X.w X.K X.mg X.base CX n f fd ps sp) (hb : Binds X.K fd ps []) (hx : Passes CX X E) (hr : Room (n + 1) X.A) : OpR X (compareOp .NotEq) (rOE C sp E not) := by
  intro pins s σ H x y v u Q I rx ry hq
  obtain ⟨a, b, dx, dy, fs, gs, rfl, rfl, ha, hb', hsp⟩ := hq
  cases rx
  cases ry
  obtain ⟨mA, J, _⟩ := ins_get I.hok ha
  obtain ⟨mB, J', _⟩ := ins_get I.hok hb'
  obtain ⟨od, J, _⟩ := J.look
  obtain ⟨od', J', _⟩ := J'.look
  refine ne_K (tb := .ref C) hr.in1.units0 I.kIn J O.hm J'.type (by simp [PySem.W.notFirst]) O.ne O.eq O.fn ?_
  refine wpAny_mono (run_eq F hb hx hr.in1 rfl I (x := .ref a) (y := .ref b) rfl rfl hsp) (fun r s' z => ?_) fun _ _ e => e
  obtain ⟨z, H', I', rz, k, ez, q⟩ := z
  subst ez
  cases rz
  exact ⟨k, rfl, .bl (!k), H', I', rfl, q⟩
/-- one of two ways to compare -/
theorem op_or {g : Value → Value → Sem Value} {r r' : R2} (a : OpR X g r) (b : OpR X g r') : OpR X g (fun x y H Q => r x y H Q ∨ r' x y H Q) := fun pins s σ H x y v u Q I rx ry h => h.elim (a pins s σ H x y v u Q I rx ry) (b pins s σ H x y v u Q I rx ry)
theorem oe {C a b dx dy : Addr} {fs gs : List (Str × V)} {H : Hp} {g : Bool → Bool} {Q : VK} (ha : H a = some (.ins C dx fs)) (hb : H b = some (.ins C dy gs)) (h : sp [.ref a, .ref b] H (fun v H' => ∃ k, v = .bl k ∧ Q (.bl (g k)) H') E) : rOE C sp E g (.ref a) (.ref b) H Q :=
  ⟨a, b, dx, dy, fs, gs, rfl, rfl, ha, hb, h⟩
end
end Ro

/-! == of an own object and something else, either side. -/
namespace Rp
open PySem PySem.Spec PySem.W PyProof.Rows
open AutoSeq1 (wpAny_loadPart')
section
variable {prog : Program} {w : World} {A : Around} {E : Value → Shared → Prop} {s : Shared} {K : Frag} {x C dx f : Addr} {Q : Option Value → Shared → Prop}
theorem int_body {i : Int} {t : Tok} {R : Fin → Shared → Prop} (hx : s.heap.get? x = some (instObj C dx)) (h : R (.done (.ret .notImplemented)) s) : wpAny (model prog w) A (Builtin.«int.__eq__» ⟨[.int i t, .ref x], []⟩) R E s := by
  obtain ⟨hp, g, d, tk, os⟩ := s
  wp_walk using wpAny_loadPart' hx
  exact h
theorem bool_body {i : Bool} {R : Fin → Shared → Prop} (hx : s.heap.get? x = some (instObj C dx)) (h : R (.done (.ret .notImplemented)) s) : wpAny (model prog w) A (Builtin.«int.__eq__» ⟨[.bool i, .ref x], []⟩) R E s := by
  obtain ⟨hp, g, d, tk, os⟩ := s
  wp_walk using wpAny_loadPart' hx
  exact h
theorem str_body {i : Str} {t : Tok} {R : Fin → Shared → Prop} (hx : s.heap.get? x = some (instObj C dx)) (h : R (.done (.ret .notImplemented)) s) : wpAny (model prog w) A (Builtin.«str.__eq__» ⟨[.str i t, .ref x], []⟩) R E s := by
  obtain ⟨hp, g, d, tk, os⟩ := s
  wp_walk using wpAny_loadPart' hx
  exact h
theorem none_body {R : Fin → Shared → Prop} (h : R (.done (.ret .notImplemented)) s) : wpAny (model prog w) A (Builtin.«NoneType.__eq__» ⟨[.none, .ref x], []⟩) R E s := by
  obtain ⟨hp, g, d, tk, os⟩ := s
  wp_walk
  exact h
theorem list_body {l : Addr} {R : Fin → Shared → Prop} (X : K.In s.heap) (hm : mroIn K C (.type "list") = some false) (hx : s.heap.get? x = some (instObj C dx)) (h : R (.done (.ret .notImplemented)) s) : wpAny (model prog w) A (Builtin.«list.__eq__» ⟨[.ref l, .ref x], []⟩) R E s := by
  obtain ⟨hp, g, d, tk, os⟩ := s
  wp_walk using wpAny_loadPart' hx
  refine (looks_mroIn X hm).here ?_
  wp_walk
  exact h
/-- the built-in on the left declines -/
theorem declines {v : Value} {T id : String} {B : Builtin} (slot : Slot T (cmpInfo .Eq).2.1 id) (hT : s.TypeIs v T) (entry : entryFor table id = some B) (args : argsOk id ⟨[v, .ref x], []⟩) (hb : ∀ R : Fin → Shared → Prop, R (.done (.ret .notImplemented)) s → ∀ E, wpAny (model prog w) A.in1 (B ⟨[v, .ref x], []⟩) R E s) (hq : Q none s) :
    wpAny (model prog w) A (tryCompare v "__eq__" (.ref x)) Q E s :=
  wpAny_tryCompare_declines hT slot (GQ.call_here slot hT entry args (hb _ ⟨rfl, hq⟩ _))
theorem rc {v : Value} {T : String} {od : Option Obj} {R : Value → Shared → Prop} (hu : A.units < cLine) (X : K.In s.heap) (I : InstAt s.heap x (instObj C dx) C od) (hT : s.TypeIs v T) (hot : oneThing? .Eq v (.ref x) = none) (hm : mroIn K C (.type T) = some false) (hs : findIn K (.ref C) "__eq__" = some (some (.ref f))) (hf : isFn K (.ref f) = true)
    (hd : ∀ Q : Option Value → Shared → Prop, Q none s → wpAny (model prog w) A (tryCompare v "__eq__" (.ref x)) Q E s)
    (h : wpAny (model prog w) A (call (.ref f) [.ref x, v]) (PySem.W.CmpBack R) E s) : wpAny (model prog w) A (richCompare .Eq v (.ref x)) R E s := by
  have one : wpAny (model prog w) A (tryCompare (.ref x) "__eq__" v) (fun r s' => ∃ z, r = some z ∧ R z s') E s := by
    unfold tryCompare
    refine wpAny_bind (ifBound_K X I hs hf (wpAny_mono h (fun z s' hz => ?_) fun _ _ e => e))
    cases z <;> first | exact hz.elim | exact wpAny_pure ⟨_, rfl, hz⟩
  simp only [richCompare, cmpInfo_Eq, hot]
  refine wpAny_holding (wpAny_bind (wpAny_cRoomFor hu ?_))
  refine wpAny_bind (wpAny_typeOf hT (wpAny_bind (I.type.here ?_)))
  split
  · refine wpAny_bind ((looks_mroIn X hm).here ?_)
    simp only [Bool.false_eq_true, if_false, Bool.not_false, if_true]
    refine wpAny_bind (hd _ ?_)
    refine wpAny_bind (wpAny_mono one (fun r s' z => ?_) fun _ _ e => e)
    obtain ⟨v, rfl, hq⟩ := z
    exact wpAny_pure hq
  · rename_i q
    exact absurd (by simp) q
end
end Rp
namespace Rp
open PySem PySem.Spec PyProof.Rows L2 Rd
/-- an own class is none of these built-in ones -/
structure Fgn (K : PySem.W.Frag) (C : Addr) : Prop where
  non : PySem.W.mroIn K C (.type "NoneType") = some false
  int : PySem.W.mroIn K C (.type "int") = some false
  bl : PySem.W.mroIn K C (.type "bool") = some false
  str : PySem.W.mroIn K C (.type "str") = some false
  lst : PySem.W.mroIn K C (.type "list") = some false
/-- None, a number, a flag, a text, a list -/
def Bi (K : PySem.W.Frag) (H : Hp) (x : V) : Prop := x = .non ∨ (∃ i, x = .int i) ∨ (∃ z, x = .bl z) ∨ (∃ z, x = .str z) ∨ ∃ a xs, x = .ref a ∧ SqL K H a xs
section
variable {X : Cx} {n : Nat} {CX : CXT} {C f : Addr} {fd : FuncData} {ps : List Str} {sp : Sp} {E : XK}
/-- such a thing on the left, an instance of C on the right -/
def rXO (K : PySem.W.Frag) (C : Addr) (sp : Sp) (E : XK) : R2 := fun x y H Q => ∃ b dy gs, y = .ref b ∧ H b = some (.ins C dy gs) ∧ Bi K H x ∧ sp [y, x] H (fun v H' => ∃ k, v = .bl k ∧ Q (.bl k) H') E
theorem op_xo (O : Ro.OwnE X.K C f) (G : Fgn X.K C) (F : FnOk X.prog X.w X.K X.mg X.base CX n f fd ps sp) (hb : Binds X.K fd ps []) (hx : Passes CX X E) (hr : Room n X.A) : OpR X (compareOp .Eq) (rXO X.K C sp E) := by
  intro pins s σ H x y v u Q I rx ry hq
  obtain ⟨b, dy, gs, rfl, hb', bi, hsp⟩ := hq
  cases ry
  have hob := (show ObjOk X.prog X.w H s.heap b (.ins C dy gs) from I.hok b _ hb').2.2.2.1
  obtain ⟨mB, J, _⟩ := ins_get I.hok hb'
  obtain ⟨od, J, _⟩ := J.look
  have fin : ∀ {v : Value}, RelV x v → wpAny (model X.prog X.w) X.A (call (.ref f) [.ref b, v]) (PySem.W.CmpBack (EP X pins σ Q)) X.xe s := fun rv =>
    wpAny_mono (Ro.run_eq F hb hx hr rfl I (x := .ref b) rfl rv hsp) (fun r s' z => by
      obtain ⟨z, H', I', rz, k, ez, q⟩ := z
      subst ez
      cases rz
      exact ⟨.bl k, H', I', rfl, q⟩) fun _ _ e => e
  rcases bi with rfl | ⟨i, rfl⟩ | ⟨i, rfl⟩ | ⟨i, rfl⟩ | ⟨a, xs, rfl, ha⟩
  · cases rx
    exact rc hr.units0 I.kIn J (T := "NoneType") rfl rfl G.non O.eq O.fn (fun Q q => declines PySem.F.slot_NoneType_eq rfl PySem.F.entry_NoneType_eq (PySem.F.args_NoneType_eq_2 _ _) (fun R h E => none_body h) q) (fin rfl)
  · obtain ⟨t, rfl⟩ := id rx
    exact rc hr.units0 I.kIn J (T := "int") rfl rfl G.int O.eq O.fn (fun Q q => declines PySem.F.slot_int_eq rfl PySem.F.entry_int_eq (PySem.F.args_int_eq_2 _ _) (fun R h E => int_body hob h) q) (fin rx)
  · cases rx
    exact rc hr.units0 I.kIn J (T := "bool") rfl rfl G.bl O.eq O.fn (fun Q q => declines PySem.F.slot_bool_eq rfl PySem.F.entry_int_eq (PySem.F.args_int_eq_2 _ _) (fun R h E => bool_body hob h) q) (fin rfl)
  · obtain ⟨t, rfl⟩ := id rx
    exact rc hr.units0 I.kIn J (T := "str") rfl rfl G.str O.eq O.fn (fun Q q => declines PySem.F.slot_str_eq rfl PySem.F.entry_str_eq (PySem.F.args_str_eq_2 _ _) (fun R h E => str_body hob h) q) (fin rx)
  · cases rx
    obtain ⟨its, rv, hl, hz⟩ := I.list ha
    have hT : s.TypeIs (.ref a) "list" := let ⟨o, _, e, c, _⟩ := hl; ⟨o, e, c⟩
    exact rc hr.units0 I.kIn J (T := "list") hT rfl G.lst O.eq O.fn (fun Q q => declines PySem.F.slot_list_eq hT PySem.F.entry_list_eq (PySem.F.args_list_eq_2 _ _) (fun R h E => list_body I.kIn G.lst hob h) q) (fin rfl)
/-- an instance of C on the left, something of the type t on the right -/
def rOX (K : PySem.W.Frag) (C : Addr) (sp : Sp) (E : XK) : R2 := fun x y H Q => ∃ a dx fs t, x = .ref a ∧ H a = some (.ins C dx fs) ∧ TyX K H y t ∧ PySem.W.notFirst K C t = true ∧ sp [x, y] H (fun v H' => ∃ k, v = .bl k ∧ Q (.bl k) H') E
theorem op_oxE (oe : PySem.W.findIn X.K (.ref C) "__eq__" = some (some (.ref f))) (of : PySem.W.isFn X.K (.ref f) = true) (F : FnOk X.prog X.w X.K X.mg X.base CX n f fd ps sp) (hb : Binds X.K fd ps []) (hx : Passes CX X E) (hr : Room n X.A) : OpR X (compareOp .Eq) (rOX X.K C sp E) := by
  intro pins s σ H x y v u Q I rx ry hq
  obtain ⟨a, dx, fs, t, rfl, ha, ty, nf, hsp⟩ := hq
  cases rx
  obtain ⟨mA, J, _⟩ := ins_get I.hok ha
  obtain ⟨od, J, _⟩ := J.look
  obtain ⟨m, hF⟩ := I.fr
  obtain ⟨P, kx, hP, _⟩ := kit_of I ry ty
  refine PySem.W.cmp_K (op := .Eq) (tb := t) hr.units0 hF I.ok.mod.kin J (kx.ty _ _ I.kIn hP) nf oe of ?_
  refine wpAny_mono (Ro.run_eq F hb hx hr rfl I (x := .ref a) rfl ry hsp) (fun r s' z => ?_) fun _ _ e => e
  obtain ⟨z, H', I', rz, k, ez, q⟩ := z
  subst ez
  cases rz
  exact ⟨.bl k, H', I', rfl, q⟩
theorem op_ox (O : Ro.OwnE X.K C f) (F : FnOk X.prog X.w X.K X.mg X.base CX n f fd ps sp) (hb : Binds X.K fd ps []) (hx : Passes CX X E) (hr : Room n X.A) : OpR X (compareOp .Eq) (rOX X.K C sp E) := op_oxE O.eq O.fn F hb hx hr
/-- isinstance of a built-in kind and an own class -/
theorem kitB_own {K : PySem.W.Frag} {T : String} (i : PySem.W.isClsIn K C = true) (t : PySem.W.typeIn K (.ref C) = some (.type "type")) (h : ((fastBuiltinMro T).map fun l => l.contains (Value.ref C)) = some false) : PySem.W.kitOne K (.type T) (.ref C) = some false := by
  show (if (Value.type T == Value.ref C) = true then some true else if ((PySem.W.clsIn K C).isSome && PySem.W.typeIn K (.ref C) == some (.type "type")) = true then PySem.W.subIn K (.type T) (.ref C) else none) = some false
  rw [if_neg (by simp), if_pos (by rw [t, show (PySem.W.clsIn K C).isSome = true from i]; simp)]
  exact h
theorem kitO_own {K : PySem.W.Frag} {D : Addr} {r : Bool} (i : PySem.W.isClsIn K C = true) (t : PySem.W.typeIn K (.ref C) = some (.type "type")) (h : PySem.W.subIn K (.ref D) (.ref C) = some r) (ne : (Value.ref D == Value.ref C) = false) : PySem.W.kitOne K (.ref D) (.ref C) = some r := by
  show (if (Value.ref D == Value.ref C) = true then some true else if ((PySem.W.clsIn K C).isSome && PySem.W.typeIn K (.ref C) == some (.type "type")) = true then PySem.W.subIn K (.ref D) (.ref C) else none) = some r
  rw [if_neg (by rw [ne]; simp), if_pos (by rw [t, show (PySem.W.clsIn K C).isSome = true from i]; simp)]
  exact h
theorem notFirst_own {K : PySem.W.Frag} {D : Addr} (h : PySem.W.subIn K (.ref D) (.ref C) = some false) : PySem.W.notFirst K C (.ref D) = true := by
  unfold PySem.W.notFirst
  rw [h]
  simp
end
theorem bi_notFirst {K : PySem.W.Frag} {C : Addr} {T : String} (h : ((fastBuiltinMro T).map fun l => l.contains (Value.ref C)) = some false) : PySem.W.notFirst K C (.type T) = true := by
  unfold PySem.W.notFirst
  rw [show PySem.W.subIn K (.type T) (.ref C) = some false from h]
  simp
end Rp

/-! + - * of own objects and of own objects and ints, - ahead of an own object; // by a divisor of either sign. -/
namespace Rr
open PySem PySem.Spec PySem.W PyProof.Rows
open AutoSeq1 (wpAny_loadPart')
section
variable {prog : Program} {w : World} {A : Around} {E : Value → Shared → Prop} {s : Shared} {K : Frag} {x C dx f g : Addr} {od : Option Obj} {Q : Value → Shared → Prop}
theorem add_body {i : Int} {t : Tok} {R : Fin → Shared → Prop} (hx : s.heap.get? x = some (instObj C dx)) (h : R (.done (.ret .notImplemented)) s) : wpAny (model prog w) A (Builtin.«int.__add__» ⟨[.int i t, .ref x], []⟩) R E s := by
  obtain ⟨hp, g, d, tk, os⟩ := s
  wp_walk using wpAny_loadPart' hx
  exact h
theorem sub_body {i : Int} {t : Tok} {R : Fin → Shared → Prop} (hx : s.heap.get? x = some (instObj C dx)) (h : R (.done (.ret .notImplemented)) s) : wpAny (model prog w) A (Builtin.«int.__sub__» ⟨[.int i t, .ref x], []⟩) R E s := by
  obtain ⟨hp, g, d, tk, os⟩ := s
  wp_walk using wpAny_loadPart' hx
  exact h
theorem mul_body {i : Int} {t : Tok} {R : Fin → Shared → Prop} (hx : s.heap.get? x = some (instObj C dx)) (h : R (.done (.ret .notImplemented)) s) : wpAny (model prog w) A (Builtin.«int.__mul__» ⟨[.int i t, .ref x], []⟩) R E s := by
  obtain ⟨hp, g, d, tk, os⟩ := s
  wp_walk using wpAny_loadPart' hx
  exact h
/-- an own class with both methods of the operator, no int -/
structure Two (K : Frag) (C : Addr) (nm : String) (f g : Addr) : Prop where
  first : selfFirst K C = true
  left : findIn K (.ref C) (PySem.dunder nm) = some (some (.ref f))
  lfn : isFn K (.ref f) = true
  right : findIn K (.ref C) (PySem.dunderR nm) = some (some (.ref g))
  rfn : isFn K (.ref g) = true
  no : mroIn K C (.type "int") = some false
theorem inPython {nm : String} (X : K.In s.heap) (D : Two K C nm f g) : Looks (model prog w) s.heap (numberSlotInPython (.ref C) nm) true := by
  intro A Q E s k q
  unfold numberSlotInPython
  refine wpAny_bind ((looks_findIn X D.left) A _ E s k ?_)
  refine wpAny_bind (wpAny_pure ?_)
  refine wpAny_bind ((looks_findIn X D.right) A _ E s k ?_)
  refine wpAny_bind (wpAny_pure ?_)
  exact wpAny_pure q
theorem fills {nm : String} (X : K.In s.heap) (D : Two K C nm f g) : Looks (model prog w) s.heap (fillsNumberSlot (.ref C) nm) true := by
  obtain ⟨cd, hcd, hm⟩ := any_some D.first
  obtain ⟨rest, hm⟩ : ∃ rest, cd.mro = .ref C :: rest := by
    cases q : cd.mro with
    | nil => rw [q] at hm; cases hm
    | cons a r => rw [q] at hm; exact ⟨r, by rw [List.head?_cons] at hm; cases (beq_iff_eq.mp hm); rfl⟩
  exact fills_K X hcd hm D.left
theorem notInt : subIn K (.type "int") (.ref C) = some false := by
  show ((fastBuiltinMro "int").map fun l => l.contains (Value.ref C)) = some false
  rfl
/-- own object, int -/
theorem own_int1 {nm : String} {i : Int} {t : Tok} {idr : String} {Q : Option Value → Shared → Prop} (X : K.In s.heap) (I : InstAt s.heap x (instObj C dx) C od) (D : Two K C nm f g) (fi : fillsNumberSlot (.type "int") nm = pure true) (sl : Slot "int" (dunderR nm) idr)
    (h : wpAny (model prog w) A (call (.ref f) [.ref x, .int i t]) (PySem.W.CmpBack fun v => Q (some v)) E s) : wpAny (model prog w) A (binaryOp1 nm (.ref x) (.int i t)) Q E s := by
  simp only [binaryOp1]
  refine wpAny_bind (I.type.here (wpAny_bind (wpAny_typeOf (typeIs_int s i t) (wpAny_bind ((fills X D).here ?_)))))
  have ne : (Value.ref C == Value.type "int") = false := by simp
  simp only [ne, Bool.false_eq_true, if_false]
  refine wpAny_bind (wpAny_of_eq fi ?_)
  simp only [Bool.and_self, if_true]
  refine wpAny_bind ((looks_subIn X notInt).here ?_)
  simp only [Bool.false_eq_true, if_false, pure_bind, Bool.not_false, Bool.and_self, if_true]
  refine wpAny_bind ((inPython X D).here ?_)
  have hpy : numberSlotInPython (.type "int") nm = pure false := rfl
  simp only [hpy, pure_bind, Bool.not_false, if_true]
  refine wpAny_bind (wpAny_of_eq sl.lookup ?_)
  refine wpAny_bind (m := tryMethod (.ref x) _ _) ?_
  unfold tryMethod
  refine wpAny_bind (special_fn X I D.left (beq_iff_eq.mp D.lfn) (wpAny_mono h (fun v s' hv => ?_) fun _ _ e => e))
  cases v <;> first | exact hv.elim | exact wpAny_pure (wpAny_pure hv)
theorem own_int {op : Operator} {i : Int} {t : Tok} {idr : String} (X : K.In s.heap) (I : InstAt s.heap x (instObj C dx) C od) (D : Two K C op.info.2 f g) (fi : fillsNumberSlot (.type "int") op.info.2 = pure true) (sl : Slot "int" (dunderR op.info.2) idr)
    (h : wpAny (model prog w) A (call (.ref f) [.ref x, .int i t]) (PySem.W.CmpBack Q) E s) : wpAny (model prog w) A (binaryOp op (.ref x) (.int i t)) Q E s := by
  rcases hi : op.info with ⟨sym, nm⟩
  rw [hi] at D fi sl
  simp only [binaryOp, hi]
  refine wpAny_holding ?_
  refine wpAny_bind (own_int1 X I D fi sl (wpAny_mono h (fun v s' hv => ?_) fun _ _ e => e))
  cases v <;> first | exact hv.elim | exact wpAny_pure hv
/-- int, own object -/
theorem int_own1 {nm : String} {i : Int} {t : Tok} {idl : String} {B : Builtin} {Q : Option Value → Shared → Prop} (X : K.In s.heap) (I : InstAt s.heap x (instObj C dx) C od) (D : Two K C nm f g) (fi : fillsNumberSlot (.type "int") nm = pure true) (sl : Slot "int" (dunder nm) idl)
    (entry : entryFor table idl = some B) (args : argsOk idl ⟨[.int i t, .ref x], []⟩) (hb : ∀ R : Fin → Shared → Prop, R (.done (.ret .notImplemented)) s → ∀ E, wpAny (model prog w) A.in1 (B ⟨[.int i t, .ref x], []⟩) R E s)
    (h : wpAny (model prog w) A (call (.ref g) [.ref x, .int i t]) (PySem.W.CmpBack fun v => Q (some v)) E s) : wpAny (model prog w) A (binaryOp1 nm (.int i t) (.ref x)) Q E s := by
  simp only [binaryOp1]
  refine wpAny_bind (wpAny_typeOf (typeIs_int s i t) (wpAny_bind (I.type.here (wpAny_bind (wpAny_of_eq fi ?_)))))
  have ne : (Value.type "int" == Value.ref C) = false := by simp
  simp only [ne, Bool.false_eq_true, if_false]
  refine wpAny_bind ((fills X D).here ?_)
  simp only [Bool.and_self, if_true]
  refine wpAny_bind ((looks_mroIn X D.no).here ?_)
  have hpy : numberSlotInPython (.type "int") nm = pure false := rfl
  simp only [Bool.false_eq_true, if_false, pure_bind, Bool.not_false, Bool.and_self, if_true, hpy]
  refine wpAny_bind (wpAny_tryMethod_declines (typeIs_int s i t) sl (GQ.call_here sl (typeIs_int s i t) entry args (hb _ ⟨rfl, ?_⟩ _)))
  refine wpAny_bind (m := tryMethod (.ref x) _ _) ?_
  unfold tryMethod
  refine wpAny_bind (special_fn X I D.right (beq_iff_eq.mp D.rfn) (wpAny_mono h (fun v s' hv => ?_) fun _ _ e => e))
  cases v <;> first | exact hv.elim | exact wpAny_pure (wpAny_bind (wpAny_rule (wpAny_pure hv)))
theorem int_own {op : Operator} {i : Int} {t : Tok} {idl : String} {B : Builtin} (X : K.In s.heap) (I : InstAt s.heap x (instObj C dx) C od) (D : Two K C op.info.2 f g) (fi : fillsNumberSlot (.type "int") op.info.2 = pure true) (sl : Slot "int" (dunder op.info.2) idl)
    (entry : entryFor table idl = some B) (args : argsOk idl ⟨[.int i t, .ref x], []⟩) (hb : ∀ R : Fin → Shared → Prop, R (.done (.ret .notImplemented)) s → ∀ E, wpAny (model prog w) A.in1 (B ⟨[.int i t, .ref x], []⟩) R E s)
    (h : wpAny (model prog w) A (call (.ref g) [.ref x, .int i t]) (PySem.W.CmpBack Q) E s) : wpAny (model prog w) A (binaryOp op (.int i t) (.ref x)) Q E s := by
  rcases hi : op.info with ⟨sym, nm⟩
  rw [hi] at D fi sl
  simp only [binaryOp, hi]
  refine wpAny_holding ?_
  refine wpAny_bind (int_own1 X I D fi sl entry args hb (wpAny_mono h (fun v s' hv => ?_) fun _ _ e => e))
  cases v <;> first | exact hv.elim | exact wpAny_pure hv
/-- minus ahead of an own object -/
theorem neg_own {n : Str} (X : K.In s.heap) (I : InstAt s.heap x (instObj C dx) C od) (hn : n = "__neg__") (hs : findIn K (.ref C) n = some (some (.ref f))) (hf : isFn K (.ref f) = true)
    (h : wpAny (model prog w) A (call (.ref f) [.ref x]) Q E s) : wpAny (model prog w) A (unaryOp .USub (.ref x)) Q E s := by
  subst hn
  unfold unaryOp
  refine wpAny_holding ?_
  simp only [show (UnaryOp.USub == UnaryOp.Not) = false from rfl, Bool.false_eq_true, if_false]
  exact wpAny_bind (special_fn X I hs (beq_iff_eq.mp hf) (wpAny_mono h (fun v s' hv => wpAny_pure hv) fun _ _ e => e))
end
end Rr
namespace Rr
open PySem PySem.Spec PyProof.Rows L2 Rd
section
variable {X : Cx} {n : Nat} {CX : CXT} {C f g : Addr} {fd : FuncData} {ps : List Str} {sp : Sp} {E : XK}
/-- both of C; one of C and an int; an int and one of C -/
def rOO (C : Addr) (sp : Sp) (E : XK) : R2 := fun x y H Q => ∃ a b dx dy fs gs, x = .ref a ∧ y = .ref b ∧ H a = some (.ins C dx fs) ∧ H b = some (.ins C dy gs) ∧ sp [x, y] H Q E
def rOI (C : Addr) (sp : Sp) (E : XK) : R2 := fun x y H Q => ∃ a dx fs i, x = .ref a ∧ y = .int i ∧ H a = some (.ins C dx fs) ∧ sp [x, y] H Q E
def rIO (C : Addr) (sp : Sp) (E : XK) : R2 := fun x y H Q => ∃ b dy gs i, x = .int i ∧ y = .ref b ∧ H b = some (.ins C dy gs) ∧ sp [y, x] H Q E
def rNeg (C : Addr) (sp : Sp) (E : XK) : V → Hp → VK → Prop := fun x H Q => ∃ a dx fs, x = .ref a ∧ H a = some (.ins C dx fs) ∧ sp [x] H Q E
theorem oo {C a b dx dy : Addr} {fs gs : List (Str × V)} {H : Hp} {Q : VK} (ha : H a = some (.ins C dx fs)) (hb : H b = some (.ins C dy gs)) (h : sp [.ref a, .ref b] H Q E) : rOO C sp E (.ref a) (.ref b) H Q := ⟨a, b, dx, dy, fs, gs, rfl, rfl, ha, hb, h⟩
theorem oi {C a dx : Addr} {i : Int} {fs : List (Str × V)} {H : Hp} {Q : VK} (ha : H a = some (.ins C dx fs)) (h : sp [.ref a, .int i] H Q E) : rOI C sp E (.ref a) (.int i) H Q := ⟨a, dx, fs, i, rfl, rfl, ha, h⟩
theorem io {C a dx : Addr} {i : Int} {fs : List (Str × V)} {H : Hp} {Q : VK} (ha : H a = some (.ins C dx fs)) (h : sp [.ref a, .int i] H Q E) : rIO C sp E (.int i) (.ref a) H Q := ⟨a, dx, fs, i, rfl, rfl, ha, h⟩
theorem neg {C a dx : Addr} {fs : List (Str × V)} {H : Hp} {Q : VK} (ha : H a = some (.ins C dx fs)) (h : sp [.ref a] H Q E) : rNeg C sp E (.ref a) H Q := ⟨a, dx, fs, rfl, ha, h⟩
theorem back {z : V} {v : Value} {s : Shared} {R : Value → Shared → Prop} (r : RelV z v) (h : R v s) : PySem.W.CmpBack R v s := by
  cases v <;> first | exact h | (cases z <;> first | (cases r; done) | (obtain ⟨_, e⟩ := r; cases e) | exact r.elim)
theorem run1 {A : Around} (F : FnOk X.prog X.w X.K X.mg X.base CX n f fd ps sp) (hb : Binds X.K fd ps []) (hx : Passes CX X E) (hr : Room n A) (hfr : A.frames = X.A.frames)
    {pins : List (Addr × Obj)} {s : Shared} {σ : L2.St} {H : Hp} {xs : List V} {us : List Value} {R : VK} (I : Inv X pins σ H s) (r2 : Vals xs us) (hsp : sp xs H R E) :
    wpAny (model X.prog X.w) A (call (.ref f) us) (EP X pins σ R) X.xe s := by
  have e0 : Env0 X.prog X.w X.K X.mg X.base A X.stack s H := by
    have e := I.env0
    exact ⟨by rw [hfr]; exact e.frames, e.mod, e.bs, e.bsz, e.funs, e.frf, e.hok, e.bare⟩
  have hl := F.len _ _ _ _ hsp
  refine wpAny_call (codeAny_mono (F.run A X.stack s H ⟨us, []⟩ us xs _ E hr e0 (by
    have := hb s us I.kIn (by rw [List.append_nil, ← r2.length]; exact hl)
    simpa using this) r2 hsp) fun r s' hq => ?_)
  cases r with
  | error e => exact hx pins σ H s e s' I hq
  | ok fl =>
    cases fl with
    | ret w => exact I.after hq
    | next => exact False.elim hq
    | brk => exact False.elim hq
    | cont => exact False.elim hq
theorem ep_back {pins : List (Addr × Obj)} {σ : L2.St} {Q : VK} {v : Value} {s : Shared} (h : EP X pins σ Q v s) : PySem.W.CmpBack (EP X pins σ Q) v s := by
  obtain ⟨z, H', I', rz, q⟩ := id h
  exact back rz h
theorem op_oo {op : Operator} (first : PySem.W.selfFirst X.K C = true) (hs : PySem.W.findIn X.K (.ref C) (PySem.dunder op.info.2) = some (some (.ref f))) (hf : PySem.W.isFn X.K (.ref f) = true) (F : FnOk X.prog X.w X.K X.mg X.base CX n f fd ps sp) (hb : Binds X.K fd ps []) (hx : Passes CX X E) (hr : Room n X.A) :
    OpR X (binaryOp op) (rOO C sp E) := by
  intro pins s σ H x y v u Q I rx ry hq
  obtain ⟨a, b, dx, dy, fs, gs, rfl, rfl, ha, hb', hsp⟩ := hq
  cases rx
  cases ry
  obtain ⟨mA, J, _⟩ := ins_get I.hok ha
  obtain ⟨mB, J', _⟩ := ins_get I.hok hb'
  obtain ⟨od, J, _⟩ := J.look
  obtain ⟨od', J', _⟩ := J'.look
  obtain ⟨m, hF⟩ := I.fr
  exact PySem.W.binop_K hF I.ok.mod.kin J J'.type first hs hf (wpAny_mono (run1 F hb hx hr rfl I (xs := [.ref a, .ref b]) (.cons rfl (.cons rfl .nil)) hsp) (fun r s' z => ep_back z) fun _ _ e => e)
theorem op_oi {op : Operator} {idr : String} (D : Two X.K C op.info.2 f g) (fi : fillsNumberSlot (.type "int") op.info.2 = pure true) (sl : Slot "int" (dunderR op.info.2) idr) (F : FnOk X.prog X.w X.K X.mg X.base CX n f fd ps sp) (hb : Binds X.K fd ps []) (hx : Passes CX X E) (hr : Room n X.A) :
    OpR X (binaryOp op) (rOI C sp E) := by
  intro pins s σ H x y v u Q I rx ry hq
  obtain ⟨a, dx, fs, i, rfl, rfl, ha, hsp⟩ := hq
  cases rx
  obtain ⟨t, rfl⟩ := id ry
  obtain ⟨mA, J, _⟩ := ins_get I.hok ha
  obtain ⟨od, J, _⟩ := J.look
  exact own_int I.kIn J D fi sl (wpAny_mono (run1 F hb hx hr rfl I (xs := [.ref a, .int i]) (.cons rfl (.cons ry .nil)) hsp) (fun r s' z => ep_back z) fun _ _ e => e)
theorem op_io {op : Operator} {idl : String} {B : Builtin} (D : Two X.K C op.info.2 f g) (fi : fillsNumberSlot (.type "int") op.info.2 = pure true) (sl : Slot "int" (dunder op.info.2) idl) (entry : entryFor table idl = some B) (args : ∀ a b : Value, argsOk idl ⟨[a, b], []⟩)
    (hbd : ∀ {A : Around} {E : Value → Shared → Prop} {s : Shared} {x dx : Addr} {i : Int} {t : Tok} {R : Fin → Shared → Prop}, s.heap.get? x = some (PySem.W.instObj C dx) → R (.done (.ret .notImplemented)) s → wpAny (model X.prog X.w) A (B ⟨[.int i t, .ref x], []⟩) R E s)
    (F : FnOk X.prog X.w X.K X.mg X.base CX n g fd ps sp) (hb : Binds X.K fd ps []) (hx : Passes CX X E) (hr : Room n X.A) : OpR X (binaryOp op) (rIO C sp E) := by
  intro pins s σ H x y v u Q I rx ry hq
  obtain ⟨b, dy, gs, i, rfl, rfl, hb', hsp⟩ := hq
  cases ry
  obtain ⟨t, rfl⟩ := id rx
  have hob := (show ObjOk X.prog X.w H s.heap b (.ins C dy gs) from I.hok b _ hb').2.2.2.1
  obtain ⟨mA, J, _⟩ := ins_get I.hok hb'
  obtain ⟨od, J, _⟩ := J.look
  exact int_own I.kIn J D fi sl entry (args _ _) (fun R h E => hbd hob h) (wpAny_mono (run1 F hb hx hr rfl I (xs := [.ref b, .int i]) (.cons rfl (.cons rx .nil)) hsp) (fun r s' z => ep_back z) fun _ _ e => e)
theorem un_neg (hs : PySem.W.findIn X.K (.ref C) "__neg__" = some (some (.ref f))) (hf : PySem.W.isFn X.K (.ref f) = true) (F : FnOk X.prog X.w X.K X.mg X.base CX n f fd ps sp) (hb : Binds X.K fd ps []) (hx : Passes CX X E) (hr : Room n X.A) : UnR X (unaryOp .USub) (rNeg C sp E) := by
  intro pins s σ H x v Q I rx hq
  obtain ⟨a, dx, fs, rfl, ha, hsp⟩ := hq
  cases rx
  obtain ⟨mA, J, _⟩ := ins_get I.hok ha
  obtain ⟨od, J, _⟩ := J.look
  exact neg_own I.kIn J rfl hs hf (run1 F hb hx hr rfl I (xs := [.ref a]) (.cons rfl .nil) hsp)
/-- != of an instance of C and something of the type t -/
def rNX (K : PySem.W.Frag) (C : Addr) (sp : Sp) (E : XK) : R2 := fun x y H Q => ∃ a dx fs t, x = .ref a ∧ H a = some (.ins C dx fs) ∧ TyX K H y t ∧ PySem.W.notFirst K C t = true ∧ sp [x, y] H (fun v H' => ∃ k, v = .bl k ∧ Q (.bl (!k)) H') E
theorem op_nx (O : Ro.OwnE X.K C f) (F : FnOk X.prog X.w X.K X.mg X.base CX n f fd ps sp) (hb : Binds X.K fd ps []) (hx : Passes CX X E) (hr : Room (n + 1) X.A) : OpR X (compareOp .NotEq) (rNX X.K C sp E) := by
  intro pins s σ H x y v u Q I rx ry hq
  obtain ⟨a, dx, fs, t, rfl, ha, ty, nf, hsp⟩ := hq
  cases rx
  obtain ⟨mA, J, _⟩ := ins_get I.hok ha
  obtain ⟨od, J, _⟩ := J.look
  obtain ⟨P, kx, hP, _⟩ := kit_of I ry ty
  refine Ro.ne_K (tb := t) hr.in1.units0 I.kIn J O.hm (kx.ty _ _ I.kIn hP) nf O.ne O.eq O.fn ?_
  refine wpAny_mono (Ro.run_eq F hb hx hr.in1 rfl I (x := .ref a) rfl ry hsp) (fun r s' z => ?_) fun _ _ e => e
  obtain ⟨z, H', I', rz, k, ez, q⟩ := z
  subst ez
  cases rz
  exact ⟨k, rfl, .bl (!k), H', I', rfl, q⟩
/-- // by a divisor of either sign, not too great -/
def CDivZ (_ j : Int) : Prop := j ≠ 0 ∧ j.natAbs.log2 < 9000
theorem op_fdivZ : OpR X (binaryOp .FloorDiv) (rI CDivZ fun i j => .int (i.fdiv j)) := opI fun i j _ _ _ _ _ hc q => floordiv_int hc.1 q (.inl (PyProof.noPylong_of_log2 hc.2))
/-- the three operators -/
theorem dAdd : PySem.dunder Operator.Add.info.2 = ("__add__" : Str) := by decide +kernel
theorem dSub : PySem.dunder Operator.Sub.info.2 = ("__sub__" : Str) := by decide +kernel
theorem dMul : PySem.dunder Operator.Mult.info.2 = ("__mul__" : Str) := by decide +kernel
theorem dRadd : dunderR Operator.Add.info.2 = ("__radd__" : Str) := by decide +kernel
theorem dRsub : dunderR Operator.Sub.info.2 = ("__rsub__" : Str) := by decide +kernel
theorem dRmul : dunderR Operator.Mult.info.2 = ("__rmul__" : Str) := by decide +kernel
variable (first : PySem.W.selfFirst X.K C = true) (no : PySem.W.mroIn X.K C (.type "int") = some false)
include first
theorem addO (hm : Meth X.K C "__add__" f) (F : FnOk X.prog X.w X.K X.mg X.base CX n f fd ps sp) (hb : Binds X.K fd ps []) (hx : Passes CX X E) (hr : Room n X.A) : OpR X (binaryOp .Add) (rOO C sp E) := op_oo first (by rw [dAdd]; exact hm.at_) hm.fn F hb hx hr
theorem subO (hm : Meth X.K C "__sub__" f) (F : FnOk X.prog X.w X.K X.mg X.base CX n f fd ps sp) (hb : Binds X.K fd ps []) (hx : Passes CX X E) (hr : Room n X.A) : OpR X (binaryOp .Sub) (rOO C sp E) := op_oo first (by rw [dSub]; exact hm.at_) hm.fn F hb hx hr
theorem mulO (hm : Meth X.K C "__mul__" f) (F : FnOk X.prog X.w X.K X.mg X.base CX n f fd ps sp) (hb : Binds X.K fd ps []) (hx : Passes CX X E) (hr : Room n X.A) : OpR X (binaryOp .Mult) (rOO C sp E) := op_oo first (by rw [dMul]; exact hm.at_) hm.fn F hb hx hr
include no
theorem twoAdd (hm : Meth X.K C "__add__" f) (hg : Meth X.K C "__radd__" g) : Two X.K C Operator.Add.info.2 f g := ⟨first, by rw [dAdd]; exact hm.at_, hm.fn, by rw [dRadd]; exact hg.at_, hg.fn, no⟩
theorem twoSub (hm : Meth X.K C "__sub__" f) (hg : Meth X.K C "__rsub__" g) : Two X.K C Operator.Sub.info.2 f g := ⟨first, by rw [dSub]; exact hm.at_, hm.fn, by rw [dRsub]; exact hg.at_, hg.fn, no⟩
theorem twoMul (hm : Meth X.K C "__mul__" f) (hg : Meth X.K C "__rmul__" g) : Two X.K C Operator.Mult.info.2 f g := ⟨first, by rw [dMul]; exact hm.at_, hm.fn, by rw [dRmul]; exact hg.at_, hg.fn, no⟩
theorem addOI (hm : Meth X.K C "__add__" f) (hg : Meth X.K C "__radd__" g) (F : FnOk X.prog X.w X.K X.mg X.base CX n f fd ps sp) (hb : Binds X.K fd ps []) (hx : Passes CX X E) (hr : Room n X.A) : OpR X (binaryOp .Add) (rOI C sp E) := op_oi (twoAdd first no hm hg) PySem.F.fills_int_add PySem.F.slot_int_radd F hb hx hr
theorem subOI (hm : Meth X.K C "__sub__" f) (hg : Meth X.K C "__rsub__" g) (F : FnOk X.prog X.w X.K X.mg X.base CX n f fd ps sp) (hb : Binds X.K fd ps []) (hx : Passes CX X E) (hr : Room n X.A) : OpR X (binaryOp .Sub) (rOI C sp E) := op_oi (twoSub first no hm hg) PySem.F.fills_int_sub PySem.F.slot_int_rsub F hb hx hr
theorem mulOI (hm : Meth X.K C "__mul__" f) (hg : Meth X.K C "__rmul__" g) (F : FnOk X.prog X.w X.K X.mg X.base CX n f fd ps sp) (hb : Binds X.K fd ps []) (hx : Passes CX X E) (hr : Room n X.A) : OpR X (binaryOp .Mult) (rOI C sp E) := op_oi (twoMul first no hm hg) PySem.F.fills_int_mul PySem.F.slot_int_rmul F hb hx hr
theorem addIO (hm : Meth X.K C "__add__" f) (hg : Meth X.K C "__radd__" g) (F : FnOk X.prog X.w X.K X.mg X.base CX n g fd ps sp) (hb : Binds X.K fd ps []) (hx : Passes CX X E) (hr : Room n X.A) : OpR X (binaryOp .Add) (rIO C sp E) := op_io (twoAdd first no hm hg) PySem.F.fills_int_add PySem.F.slot_int_add PySem.F.entry_int_add (PySem.F.args_int_add_2) add_body F hb hx hr
theorem subIO (hm : Meth X.K C "__sub__" f) (hg : Meth X.K C "__rsub__" g) (F : FnOk X.prog X.w X.K X.mg X.base CX n g fd ps sp) (hb : Binds X.K fd ps []) (hx : Passes CX X E) (hr : Room n X.A) : OpR X (binaryOp .Sub) (rIO C sp E) := op_io (twoSub first no hm hg) PySem.F.fills_int_sub PySem.F.slot_int_sub PySem.F.entry_int_sub (PySem.F.args_int_sub_2) sub_body F hb hx hr
theorem mulIO (hm : Meth X.K C "__mul__" f) (hg : Meth X.K C "__rmul__" g) (F : FnOk X.prog X.w X.K X.mg X.base CX n g fd ps sp) (hb : Binds X.K fd ps []) (hx : Passes CX X E) (hr : Room n X.A) : OpR X (binaryOp .Mult) (rIO C sp E) := op_io (twoMul first no hm hg) PySem.F.fills_int_mul PySem.F.slot_int_mul PySem.F.entry_int_mul (PySem.F.args_int_mul_2) mul_body F hb hx hr
end
end Rr

/-! {(a, b): v, ..}: a dict written out whose keys are tuples. -/
namespace Ry
open PySem PySem.Spec PyProof.Rows L2 Rd
section
variable {X : Cx} {pins : List (Addr × Obj)} {σ : L2.St} {H : Hp} {s : Shared} {a : Addr} {A : Around} {E : Value → Shared → Prop}
/-- d[y] = v by the dict's own store, y a tuple -/
theorem dset {kvs : List (List Key × V)} {k : List Key} {b : Addr} {v : V} {r : Value} {Q : Unit → Shared → Prop} (hu : A.units + 1 < cLine) (I : Inv X pins σ H s) (e : H a = some (.dT kvs)) (eb : H b = some (.tup (k.map kV))) (l : kvs.length < sizeLine) (rv : L2.RelV v r)
    (h : ∀ s', Inv X pins σ (upd H a (.dT (putK kvs k v))) s' → Q () s') : wpAny (model X.prog X.w) A (dictSet a (.ref b) r) Q E s := by
  obtain ⟨z, hd, xs, rel, dd⟩ := dt_of I.hok e
  have hz : xs.length ≤ sizeLine := by rw [← Paired.length rel]; exact z
  have hl : (putK kvs k v).length ≤ sizeLine := by have := length_putK kvs k v; omega
  refine wpAny_dictSet_heap (hsz := hz) (show A.units < cLine by omega) (key_of I.hok eb) dd fun h' dd' hs => h _ ?_
  obtain ⟨q, es, ep, hq, h2, h3, h4, _, h5⟩ := dd'
  refine d_write I (by rw [e]; exact True.intro) hs ⟨q, hq⟩ ⟨hl, hd, _, (rel.put k eb rv).keeps fun c ys ec => ?_, q, es, ep, hq, h2, h3, h4, h5⟩
  rw [upd_ne (ne_of ec e (fun z => nomatch z))]
  exact ec
/-- what a display puts down, pair by pair -/
def putAll (kvs more : List (List Key × V)) : List (List Key × V) := more.foldl (fun acc kv => putK acc kv.1 kv.2) kvs
theorem putAll_len : ∀ (more kvs : List (List Key × V)), (putAll kvs more).length ≤ kvs.length + more.length
  | [], kvs => by show kvs.length ≤ kvs.length + 0; omega
  | p :: r, kvs => by
    have h1 := putAll_len r (putK kvs p.1 p.2)
    have h2 := length_putK kvs p.1 p.2
    show (putAll (putK kvs p.1 p.2) r).length ≤ _
    rw [List.length_cons]; omega
/-- the pairs (a tuple's address, a value) with the tuples' keys -/
def KeyAt (H : Hp) (p : V × V) (kv : List Key × V) : Prop := ∃ b, p.1 = .ref b ∧ H b = some (.tup (kv.1.map kV)) ∧ p.2 = kv.2
theorem dsets {a : Addr} : ∀ (more : List (List Key × V)) {ps : List (V × V)} {vs : List (Value × Value)} {kvs : List (List Key × V)} {H : Hp} {s : Shared} {Q : PUnit → Shared → Prop}, A.units + 1 < cLine → Inv X pins σ H s → H a = some (.dT kvs) → VV ps vs → Paired (KeyAt H) ps more →
    kvs.length + more.length ≤ 1000 → (∀ s', Inv X pins σ (upd H a (.dT (putAll kvs more))) s' → Q PUnit.unit s') →
    wpAny (model X.prog X.w) A (forIn vs PUnit.unit fun (x : Value × Value) (_ : PUnit) => (do dictSet a x.1 x.2; pure (ForInStep.yield PUnit.unit) : Sem (ForInStep PUnit))) Q E s
  | [], ps, vs, kvs, H, s, Q, hu, I, e, r, p, hl, h => by
    cases p
    cases r
    rw [List.forIn_nil]
    refine wpAny_pure (h s ?_)
    have : upd H a (.dT (putAll kvs [])) = H := by
      funext b
      by_cases c : b = a
      · rw [c, upd_same, e]; rfl
      · rw [upd_ne c]
    rw [this]
    exact I
  | kv :: more, ps, vs, kvs, H, s, Q, hu, I, e, r, p, hl, h => by
    cases p with
    | @cons q _ ps' _ k p' =>
      cases r with
      | @cons _ u _ us ru r' =>
        obtain ⟨b, e1, e2, e3⟩ := k
        obtain ⟨ku, vu⟩ := u
        have ra : L2.RelV (.ref b) ku := by rw [← e1]; exact ru.1
        cases (show ku = Value.ref b from ra)
        have rv : L2.RelV kv.2 vu := by rw [← e3]; exact ru.2
        rw [List.length_cons] at hl
        rw [List.forIn_cons]
        refine wpAny_bind (wpAny_bind (dset hu I e e2 (by rw [sizeLine_eq]; omega) rv fun s1 I1 => wpAny_pure ?_))
        have keep : ∀ {ps : List (V × V)} {more : List (List Key × V)}, Paired (KeyAt H) ps more → Paired (KeyAt (upd H a (.dT (putK kvs kv.1 kv.2)))) ps more := fun x => by
          induction x with
          | nil => exact .nil
          | cons z _ ih =>
            obtain ⟨b, e1, e2, e3⟩ := z
            exact .cons ⟨b, e1, by rw [upd_ne (ne_of e2 e (fun z => nomatch z))]; exact e2, e3⟩ ih
        refine dsets more hu I1 upd_same r' (keep p') (by have := length_putK kvs kv.1 kv.2; omega) fun s2 I2 => h s2 ?_
        rw [upd_upd] at I2
        exact I2
end
/-- {k: v, ..}, the keys tuples of ints and texts; the new dict stands empty while the pairs are made -/
def tDispT (trs : List (TE × TE)) : TE := fun σ H Q => ∀ p, H p = none → tPairs trs σ (upd H p (.dT [])) fun ps H2 => H2 p = some (.dT []) ∧ ∃ kvs : List (List Key × V), Paired (KeyAt H2) ps kvs ∧ kvs.length ≤ 15 ∧ Q (.ref p) (upd H2 p (.dT (putAll [] kvs)))
theorem pe_dispT {X : Cx} {pos : Pos} {keys : List (Option Expr)} {values : List Expr} {trs : List (TE × TE)} (hu : X.A.units + 1 < cLine) (h : PPs X pos keys values trs) (hall : keys.all (·.isSome) = true) (hl : keys.length = values.length) (h0 : keys ≠ [])
    (h15 : keys.length ≤ 15) : PE X (.Dict keys values pos) (tDispT trs) := by
  refine ⟨fun pins s σ H Q I q => ?_⟩
  have hn := I.hok.fresh (Nat.le_refl s.heap.objs.size)
  have I1 := I.laid (a := s.heap.objs.size) (o := .dT []) (h' := s.heap.push { cls := .type "dict", data := .dict #[] }) (t' := s.toks) (fun _ _ q => Heap.get?_push_of_some _ q) (Nat.le_refl _) (dt_empty s.heap I.big)
  have hp := pairTrees_length keys values X.env pos hall hl
  have hne : pairTrees keys values X.env pos ≠ [] := fun c => by
    rw [c] at hp
    exact h0 (List.length_eq_zero_iff.mp hp.symm)
  rw [arm_eval_Dict, zip_pairTrees keys values X.env pos hall hl, dictDisplay_pairs _ hne (by omega)]
  refine wpAny_bind (wpAny_standAt (wpAny_bind ?_))
  unfold subDict
  refine wpAny_bind (wpAny_alloc ?_)
  refine wpAny_bind (wpAny_holding ?_)
  rw [if_pos (by omega)]
  refine wpAny_bind (thn (h.run pins _ σ _ _ I1 (q _ hn)) fun ws s2 ⟨ps, H2, I2, rel, e, kvs, pr, lk, q2⟩ => ?_)
  refine wpAny_holding (wpAny_bind (dsets kvs hu I2 e rel pr (by rw [List.length_nil]; omega) fun s3 I3 => wpAny_pure (wpAny_pure (wpAny_pure ⟨.ref s.heap.objs.size, _, I3, rfl, q2⟩))))
theorem dispT {trs : List (TE × TE)} {σ : L2.St} {H : Hp} {Q : VK} (h : ∀ (p : Addr) (G : Hp), H p = none → G p = some (.dT []) → Same H G → tPairs trs σ G fun ps H2 => H2 p = some (.dT []) ∧ ∃ kvs : List (List Key × V), Paired (KeyAt H2) ps kvs ∧ kvs.length ≤ 15 ∧
    ∀ G2 : Hp, G2 p = some (.dT (putAll [] kvs)) → (∀ b, b ≠ p → G2 b = H2 b) → Q (.ref p) G2) : tDispT trs σ H Q := fun p hp => by
  have key := h p _ hp upd_same (same_upd hp)
  have mono : ∀ {trs : List (TE × TE)} {σ : L2.St} {H : Hp} {A B : List (V × V) → Hp → Prop}, A = B → tPairs trs σ H A → tPairs trs σ H B := fun e h => e ▸ h
  refine mono ?_ key
  funext ps H2
  refine propext ⟨fun ⟨a, kvs, b, c, d⟩ => ⟨a, kvs, b, c, d _ upd_same fun b hb => upd_ne hb⟩, fun ⟨a, kvs, b, c, d⟩ => ⟨a, kvs, b, c, fun G2 g off => ?_⟩⟩
  have e : G2 = upd H2 p (.dT (putAll [] kvs)) := by
    funext x
    by_cases q : x = p
    · rw [q, g, upd_same]
    · rw [off x q, upd_ne q]
  rw [e]
  exact d
/-- what a comprehension within a comprehension walks -/
theorem pi_listK {X : Cx} {K : PySem.W.Frag} {tg l : Expr} {tl : TE} (e : X.K = K) (hl : PE X l tl) : PI X tg l (iList K tl) := e ▸ pi_list hl
theorem pi_tupK {X : Cx} {K : PySem.W.Frag} {tg l : Expr} {tl : TE} (e : X.K = K) (hl : PE X l tl) : PI X tg l (iTup K tl) := e ▸ pi_tup hl
/-- a join within a comprehension -/
def joinR (K : PySem.W.Frag) : V → List V → Hp → VK → Prop := fun x xs H Q => ∃ a p, ∃ ys : List Str, x = .str a ∧ xs = [.ref p] ∧ (SqL K H p (ys.map V.str) ∨ SqT K H p (ys.map V.str)) ∧
      (ys.map (·.length)).sum + ys.length * a.length ≤ 16777216 ∧ Q (.str (Txt.join a ys)) H
theorem pe_joinK {X : Cx} {o e : Expr} {to te : TE} {apos pos : Pos} (ho : PE X o to) (he : PE X e te) (hs : starEach [e] X.env = [(false, eval e X.env)] := by rfl) (hbase : attributeBase o "join" X.env (eval o X.env) = eval o X.env := by rfl) (hline : (apos.endLine == pos.line) = true := by rfl) :
    PE X (.Call (.Attribute o "join" apos) [e] [] pos) (tM1 (joinR X.K) to te) := pe_join ho he hs hbase hline
theorem joinS {K : PySem.W.Frag} {H : Hp} {a : Str} {p : Addr} {ys : List Str} {Q : VK} (hp : SqL K H p (ys.map V.str) ∨ SqT K H p (ys.map V.str)) (hz : (ys.map (·.length)).sum + ys.length * a.length ≤ 16777216) (h : Q (.str (Txt.join a ys)) H) : joinR K (.str a) [.ref p] H Q := ⟨a, p, ys, rfl, rfl, hp, hz, h⟩
/-- dict(xs) of a list of pairs -/
def rDictP (K : PySem.W.Frag) : List V → Hp → VK → Prop := fun xs H Q => ∃ (a : Addr) (ps : List Addr) (kvs : List (Key × V)), xs = [.ref a] ∧ SqL K H a (ps.map V.ref) ∧ Paired (fun p kv => SqT K H p [kV kv.1, kv.2]) ps kvs ∧ ∀ p, H p = none → Q (.ref p) (upd H p (.dK (mergeK [] kvs)))
theorem c_dictP {X : Cx} (h : X.calm = true) : CallR X (.type "dict") (rDictP X.K) := call_dictP h
theorem dictP {K : PySem.W.Frag} {H : Hp} {a : Addr} {ps : List Addr} {kvs : List (Key × V)} {Q : VK} (h : SqL K H a (ps.map V.ref)) (hp : Paired (fun p kv => SqT K H p [kV kv.1, kv.2]) ps kvs) (q : ∀ (p : Addr) (G : Hp), H p = none → G p = some (.dK (mergeK [] kvs)) → Same H G → Q (.ref p) G) : rDictP K [.ref a] H Q :=
  ⟨a, ps, kvs, rfl, h, hp, fun p hp => q p _ hp upd_same (same_upd hp)⟩
end Ry

/-! bits of small numbers -/
namespace Rb
open PySem PySem.Spec
theorem andN (a b : Nat) : Builtin.bitAnd (a : Int) (b : Int) = ((a &&& b : Nat) : Int) := PySem.W.os_band a b
theorem orN (a b : Nat) : Builtin.bitOr (a : Int) (b : Int) = ((a ||| b : Nat) : Int) := by
  have n1 : ∀ x : Nat, Builtin.bitNot (x : Int) < 0 := fun x => by unfold Builtin.bitNot; omega
  have n2 : ∀ x : Int, Builtin.bitNot (Builtin.bitNot x) = x := fun x => by unfold Builtin.bitNot; omega
  unfold Builtin.bitOr Builtin.bitAnd
  have h1 := n1 a
  have h2 := n1 b
  rw [decide_eq_false (by omega), decide_eq_false (by omega)]
  simp only [n2, Int.toNat_natCast]
theorem bitN (a k : Nat) : Builtin.bitAnd ((a : Int) / 2 ^ ((k : Nat) : Int).toNat) 1 = ((a / 2 ^ k % 2 : Nat) : Int) := by
  rw [Int.toNat_natCast, show (a : Int) / 2 ^ k = ((a / 2 ^ k : Nat) : Int) by push_cast; rfl, show (1 : Int) = ((1 : Nat) : Int) from rfl, andN, Nat.and_one_is_mod]
theorem shl1 (k : Nat) : (1 : Int) * 2 ^ ((k : Nat) : Int).toNat = ((2 ^ k : Nat) : Int) := by
  rw [Int.toNat_natCast, Int.one_mul]
  push_cast
  rfl
end Rb

/-! anything == a text. -/
namespace Be
open PySem PySem.Spec PySem.W PyProof.Rows PySem.SeqAt
open AutoSeq1 (wpAny_loadPart')
theorem dict_declines (l : Addr) (es : Array DictEntry) (n : Nat) (dd : Option Addr) (sl : Array (Option Value)) (b : Str) (u : Tok) :
    Meets (Builtin.«dict.__eq__» ⟨[.ref l, .str b u], []⟩) (fun _ R s => (l == sysModules) = false ∧ s.heap.get? l = some { cls := .type "dict", dict := dd, data := .dict es n, slots := sl } ∧ R (.ok (.ret .notImplemented)) s) :=
  .of_wp fun prog w A R s h => by obtain ⟨hp, g, d, tk, os⟩ := s; obtain ⟨hm, hl, h⟩ := h; have f1 := F.sub_str_dict; wp_walk using wpAny_loadPart' hl, wpAny_load hl; exact ⟨_, rfl, h⟩
theorem str_declines_dict (b : Str) (u : Tok) (l : Addr) (es : Array DictEntry) (n : Nat) (dd : Option Addr) (sl : Array (Option Value)) :
    Meets (Builtin.«str.__eq__» ⟨[.str b u, .ref l], []⟩) (fun _ R s => s.heap.get? l = some { cls := .type "dict", dict := dd, data := .dict es n, slots := sl } ∧ R (.ok (.ret .notImplemented)) s) :=
  .of_wp fun prog w A R s h => by obtain ⟨hp, g, d, tk, os⟩ := s; obtain ⟨hl, h⟩ := h; wp_walk using wpAny_loadPart' hl, wpAny_load hl; exact ⟨_, rfl, h⟩
theorem dict_str {A : Around} {s : Shared} {l : Addr} {o : Obj} {es : Array DictEntry} {n : Nat} (b : Str) (u : Tok) (hm : (l == sysModules) = false) (ho : s.heap.get? l = some o) (hc : o.cls = .type "dict") (hd : o.data = .dict es n) (hu : A.units < cLine) : RcAt A s (.ref l) (.str b u) false := fun prog w E Q h => by
  obtain ⟨cls, dd, data, sl⟩ := o
  simp only at hc hd
  subst hc hd
  exact rc_eq_decline_or (k := false) ⟨_, ho, rfl⟩ (typeIs_str s b u) (by decide) F.sub_str_dict F.slot_dict_eq F.slot_str_eq_refl
    (fun _ hq => call_meets F.slot_dict_eq ⟨_, ho, rfl⟩ F.entry_dict_eq (F.args_dict_eq_2 _ _) (dict_declines l es n dd sl b u) ⟨hm, ho, hq⟩)
    (fun _ hq => call_meets F.slot_str_eq_refl (typeIs_str s b u) F.entry_str_eq (F.args_str_eq_2 _ _) (str_declines_dict b u l es n dd sl) ⟨ho, hq⟩)
    (fun _ hq => wpAny_of_eq (rfl : isSame (.ref l) (.str b u) = pure false) hq) (.inr hu) h
end Be
namespace Be
open PySem PySem.Spec PyProof.Rows PySem.SeqAt L2
/-- is it this text? -/
def isT (z : Str) : Rx.Kd → Bool
  | .str w => w == z
  | _ => false
def rEqZ : R2 := fun x y H Q => ∃ k z, Rx.Is H x k ∧ y = .str z ∧ Q (.bl (isT z k)) H
theorem op_eqZ {X : Cx} (hu : X.A.units + 64 < cLine) : OpR X (compareOp .Eq) rEqZ := by
  intro pins s σ H x y v u Q I rx ry h
  obtain ⟨k, z, ix, rfl, q⟩ := h
  have hu0 : X.A.units < cLine := by omega
  obtain ⟨t, rfl⟩ := id ry
  have fin : ∀ {b : Bool}, Q (.bl b) H → EP X pins σ Q (.bool b) s := fun q => ⟨.bl _, H, I, rfl, q⟩
  cases ix with
  | non => cases rx; exact RcAt.none_str z t _ _ _ _ (fin q)
  | bl b => cases rx; exact RcAt.bool_str b z t _ _ _ _ (fin q)
  | int i => obtain ⟨t', rfl⟩ := id rx; exact RcAt.int_str i t' z t _ _ _ _ (fin q)
  | str l => obtain ⟨t', rfl⟩ := id rx; exact RcAt.str_str _ t' z t _ _ _ _ (fin q)
  | lst hk l =>
    cases rx
    obtain ⟨its, rv, ⟨o, n, e, c, _, d⟩, hz⟩ := I.list (.of hk)
    exact RcAt.list_str z t ⟨o, e, c, n, d⟩ hu0 _ _ _ _ (fin q)
  | tup hk l =>
    cases rx
    obtain ⟨its, rv, ⟨o, e, c, n, d⟩, hz⟩ := I.tuple (.of hk)
    exact RcAt.tuple_str z t ⟨o, e, c, n, d⟩ hu0 _ _ _ _ (fin q)
  | dct hk =>
    cases rx
    obtain ⟨_, sm, vs, kv, o, es, ep, h1, h2, h3, _, pr, _⟩ := dk_of I.hok hk
    exact dict_str z t sm h1 h2.1 h3 hu0 _ _ _ _ (fin q)
theorem eqZ {x : V} {k : Rx.Kd} {z : Str} {H : Hp} {Q : VK} (i : Rx.Is H x k) (q : Q (.bl (isT z k)) H) : rEqZ x (.str z) H Q := ⟨k, z, i, rfl, q⟩
/-- anything but a dict != a text -/
def rNeZ : R2 := fun x y H Q => ∃ k z, Rx.Is H x k ∧ k.isDct = false ∧ y = .str z ∧ Q (.bl (!isT z k)) H
theorem op_neZ {X : Cx} (hu : X.A.units + 64 < cLine) : OpR X (compareOp .NotEq) rNeZ := by
  intro pins s σ H x y v u Q I rx ry h
  obtain ⟨k, z, ix, dk, rfl, q⟩ := h
  have hu0 : X.A.units < cLine := by omega
  obtain ⟨t, rfl⟩ := id ry
  have fin : ∀ {b : Bool}, Q (.bl b) H → EP X pins σ Q (.bool b) s := fun q => ⟨.bl _, H, I, rfl, q⟩
  cases ix with
  | non => cases rx; exact RcNeAt.none_str z t _ _ _ _ (fin q)
  | bl b => cases rx; exact RcNeAt.bool_str b z t _ _ _ _ (fin q)
  | int i => obtain ⟨t', rfl⟩ := id rx; exact RcNeAt.int_str i t' z t _ _ _ _ (fin q)
  | str l => obtain ⟨t', rfl⟩ := id rx; exact RcNeAt.str_str _ t' z t _ _ _ _ (fin q)
  | lst hk l =>
    cases rx
    obtain ⟨its, rv, ⟨o, n, e, c, _, d⟩, hz⟩ := I.list (.of hk)
    exact RcNeAt.list_str z t ⟨o, e, c, n, d⟩ hu0 _ _ _ _ (fin q)
  | tup hk l =>
    cases rx
    obtain ⟨its, rv, ⟨o, e, c, n, d⟩, hz⟩ := I.tuple (.of hk)
    exact RcNeAt.tuple_str z t ⟨o, e, c, n, d⟩ hu0 _ _ _ _ (fin q)
  | dct hk => cases dk
theorem neZ {x : V} {k : Rx.Kd} {z : Str} {H : Hp} {Q : VK} (i : Rx.Is H x k) (d : k.isDct = false) (q : Q (.bl (!isT z k)) H) : rNeZ x (.str z) H Q := ⟨k, z, i, d, rfl, q⟩
end Be

/-! A list compared with itself; a thing asked for one of four own classes. -/
namespace Bw
open PySem PySem.Spec PyProof.Rows L2 Rd
variable {X : Cx} {D : Ends} {σ : L2.St} {H H' : Hp} {K : PySem.W.Frag}
/-- two lists whose items are equal -/
def LstEq (K : PySem.W.Frag) (H : Hp) (x y : V) : Prop := ∃ a b xs ys, x = .ref a ∧ y = .ref b ∧ SqL K H a xs ∧ SqL K H b ys ∧ Paired (Rx.EqI K H) xs ys
def rNeL (K : PySem.W.Frag) : R2 := fun x y H Q => LstEq K H x y ∧ Q (.bl false) H
theorem op_neL (hu : X.A.units + 66 < cLine) : OpR X (compareOp .NotEq) (rNeL X.K) := by
  intro pins s σ H x y v u Q I rx ry h
  obtain ⟨⟨a, b, xs, ys, rfl, rfl, ha, hb, hp⟩, q⟩ := h
  cases (show v = Value.ref a from rx)
  cases (show u = Value.ref b from ry)
  obtain ⟨us, r1, p1, _⟩ := I.list ha
  obtain ⟨ws, r2, p2, _⟩ := I.list hb
  have hsz : us.toArray.size = ws.toArray.size := by
    rw [List.size_toArray, List.size_toArray, ← r1.length, ← r2.length]
    exact Paired.length hp
  refine SeqAt.RcNeAt.lists (e := fun _ => true) p1.isList p2.isList hsz (by omega) (fun j h1 h2 => ?_) X.prog X.w _ _ ?_
  · have k := Rx.eqIs_run I (A := X.A.in1) (by show X.A.units + 1 + 64 < cLine; omega) hp r1 r2 j (by simpa using h1) (by simpa using h2)
    simpa using k
  · rw [show ((List.range us.toArray.size).all fun _ => true) = true from List.all_eq_true.mpr fun _ _ => rfl]
    exact ⟨.bl false, H, I, by simp [L2.RelV], q⟩
theorem eqI_self {x : V} (h : flatB x = true ∨ ∃ a, x = .ref a) : Rx.EqI K H x x := h.elim (fun f => .inl ⟨rfl, f⟩) fun ⟨a, e⟩ => .inr (.inl ⟨a, e, e⟩)
theorem eqIs_self : ∀ {xs : List V}, (∀ x ∈ xs, flatB x = true ∨ ∃ a, x = .ref a) → Paired (Rx.EqI K H) xs xs
  | [], _ => .nil
  | x :: xs, h => .cons (eqI_self (h x List.mem_cons_self)) (eqIs_self fun y m => h y (List.mem_cons_of_mem _ m))
theorem neL {a : Addr} {xs : List V} {Q : VK} (h : SqL K H a xs) (f : ∀ x ∈ xs, flatB x = true ∨ ∃ b, x = .ref b) (q : Q (.bl false) H) : rNeL K (.ref a) (.ref a) H Q := ⟨⟨a, a, xs, xs, rfl, rfl, h, h, eqIs_self f⟩, q⟩
/-- isinstance of a tuple of four own classes -/
theorem ask4 {x : V} {t : Value} {tp : Addr} {A B C D : Addr} {a b c d : Bool} {Q : VK} (ht : H tp = some (.tup [.ref A, .ref B, .ref C, .ref D])) (ty : TyX K H x t) (ka : PySem.W.kitOne K t (.ref A) = some a) (kb : PySem.W.kitOne K t (.ref B) = some b) (kc : PySem.W.kitOne K t (.ref C) = some c) (kd : PySem.W.kitOne K t (.ref D) = some d) (q : Q (.bl (a || b || c || d)) H) : rIsiT K [x, .ref tp] H Q := by
  refine ⟨_, tp, _, _, [.ref A, .ref B, .ref C, .ref D], (a || b || c || d), rfl, ht, .cons (.own _) (.cons (.own _) (.cons (.own _) (.cons (.own _) .nil))), ty, ?_, q⟩
  refine kitAny_cons ka (fun e => kitAny_cons kb (fun e2 => kitAny_cons kc (fun e3 => kitAny_cons kd (fun e4 => ?_) fun e4 => ?_) fun e3 => ?_) fun e2 => ?_) fun e => ?_
  · rw [kitAny_nil]; subst e e2 e3 e4; rfl
  · subst e e2 e3 e4; rfl
  · subst e e2 e3; rfl
  · subst e e2; rfl
  · subst e; rfl
end Bw

/-! The head by one kernel run: what the top leaves, as Bools of the heap's fragment. -/
namespace Hk
open PySem PySem.Spec PyProof.Rows L2
theorem get {l : List Bool} (h : l.all id = true) (i : Nat) {b : Bool} (e : l[i]? = some b) : b = true :=
  List.all_eq_true.mp h b (List.mem_of_getElem? e)
theorem fnW_ {fa : List He.Fa} {fn : List He.DefD} {K : PySem.W.Frag} (c : He.SaysD fa fn K) (i : Nat) {d : He.DefD} (h : fn[i]? = some d) : He.fnW K d.at_ = d.val := by
  have e : fn.map (fun d => He.fnW K d.at_) = fn.map He.DefD.val := congrArg (fun z : He.AlD => z.2) c
  have e2 : (fn.map fun d => He.fnW K d.at_)[i]? = (fn.map He.DefD.val)[i]? := by rw [e]
  rw [List.getElem?_map, List.getElem?_map, h] at e2
  exact Option.some.inj e2
/-- a def of no default -/
def okF (K : PySem.W.Frag) (p : Str × Option Str) (qual : Str) : Bool := PySem.W.keepIn K (.ref (He.fAd K p)) && (match K.lookup (He.fAd K p) with
  | some ⟨_, _, .func fd, _⟩ => PySem.W.codeIn K fd.code qual && decide (fd.defaults = .none)
  | _ => false)
theorem fun_of {K : PySem.W.Frag} {x qual : Str} {st : Stmt} {p : Str × Option Str} (e : He.fnW K p = some (x, qual, defArgs st, .stmts (defBody st), defScope st, mainGlobals, [], builtinsNs)) (c : okF K p qual = true) : ∃ fd, L2.Fun K x qual st (He.fAd K p) fd := by
  obtain ⟨kp, c2⟩ := Bool.and_eq_true_iff.mp c
  unfold He.fnW at e
  cases q : K.lookup (He.fAd K p) with
  | none =>
    rw [q] at c2
    cases c2
  | some o =>
    obtain ⟨oc, od, dt, osl⟩ := o
    rw [q] at c2 e
    cases dt with
    | func fd =>
      obtain ⟨n1, n2, n3, n4, n5, n6, n7, n8, n9, n10, n11, n12, n13, n14, n15⟩ := fd
      have e2 : (some (n1, n2, n3, n4, n5, n6, n7, n15) : He.FnW) = some (x, qual, defArgs st, .stmts (defBody st), defScope st, mainGlobals, [], builtinsNs) := e
      simp only [Option.some.injEq, Prod.mk.injEq] at e2
      obtain ⟨h1, h2, h3, h4, h5, h6, h7, h8⟩ := e2
      subst h1 h2 h3 h4 h5 h6 h7 h8
      have c3 : (PySem.W.codeIn K n13 n2 && decide (n8 = .none)) = true := c2
      obtain ⟨k1, k2⟩ := Bool.and_eq_true_iff.mp c3
      obtain rfl : n8 = .none := of_decide_eq_true k2
      exact ⟨_, ⟨oc, od, n9, n10, n11, n12, n13, n14, osl, rfl, q, k1⟩, kp⟩
    | _ => cases c2
/-- an exception's class of an own __init__ -/
def oexB (K : PySem.W.Frag) (C : Addr) : Bool := match K.lookup C with
  | some ⟨.type "type", _, .cls cd, sl⟩ => (match cd.mro, sl.toList with
    | .ref C' :: bm, [_, _, _, _, some (.builtin n), _] => C' == C && n == "ValueError.__new__" && !cd.hasDel && cd.hasDict && PySem.HandSPX.refsVE bm
    | _, _ => false)
  | _ => false
theorem oex_of {K : PySem.W.Frag} {C : Addr} (q : oexB K C = true) : ∃ nm qn N bs bm sn sub ab col dd k0 k1 k2 k3 k5, K.lookup C = some (excClassObj nm qn C N bs bm true sn sub ab col dd k0 k1 k2 k3 k5 "ValueError.__new__") ∧ PySem.HandSPX.refsVE bm = true := by
  unfold oexB at q
  split at q
  · rename_i dd cd sl ho
    split at q
    · rename_i C' bm k0 k1 k2 k3 n k5 hm hs
      simp only [Bool.and_eq_true, beq_iff_eq, Bool.not_eq_true'] at q
      obtain ⟨⟨⟨⟨rfl, rfl⟩, hdel⟩, hdi⟩, ht⟩ := q
      obtain ⟨nm, bs, mro, ns, qn, hd, sn, sub, ab, col, del⟩ := cd
      dsimp only at hm hdel hdi
      subst hm hdel hdi
      have hsl : sl = #[k0, k1, k2, k3, some (.builtin "ValueError.__new__"), k5] := by
        obtain ⟨l⟩ := sl
        simp only at hs
        rw [hs]
      subst hsl
      exact ⟨nm, qn, ns, bs, bm, sn, sub, ab, col, dd, k0, k1, k2, k3, k5, ho, ht⟩
    · cases q
  · cases q
open HandSHeadRun in
/-- two looks at what one run leaves, as one -/
theorem run_and {r : PySem.W.OpenRow} {q : Program} {M n : Nat} {loose : List Str} {w : World} {fa : List He.Fa} {fn : List He.DefD} {ex0 ex1 : PySem.W.Frag → Bool}
    (h0 : RunEq r q (He.hookX n fa fn [] [] ex0) (fun s => He.obsX n fa fn [] [] ex0 (getT s)) M loose w) (h1 : RunEq r q (He.hookX n [] [] [] [] ex1) (fun s => He.obsX n [] [] [] [] ex1 (getT s)) M loose w) :
    RunEq r q (He.hookX n fa fn [] [] (fun K => ex0 K && ex1 K)) (fun s => He.obsX n fa fn [] [] (fun K => ex0 K && ex1 K) (getT s)) M loose w := by
  intro os
  have a := h0 os
  have b := h1 os
  revert a b
  generalize endF (stepQ (denQ tabQ) r.prog w) M r.prog w os = e
  intro a b
  cases e with
  | none => cases a
  | some s =>
    have a' := Option.some.inj a
    have b' := Option.some.inj b
    have a1 := congrArg (fun z => z.1) a'
    have a2 := congrArg (fun z => z.2.1) a'
    have a3 := congrArg (fun z => z.2.2) a'
    have b3 := congrArg (fun z => z.2.2) b'
    have c1 : He.obsT fa fn [] (He.frT (getT s) (He.asD (getT s) n)) = He.valT fn [] w := congrArg (fun z : He.AlX => z.1) a3
    have c2 : (ex0 (He.frT (getT s) (He.asD (getT s) n)) && He.tabsB (getT s) [] (He.frT (getT s) (He.asD (getT s) n))) = true := congrArg (fun z : He.AlX => z.2) a3
    have d2 : (ex1 (He.frT (getT s) (He.asD (getT s) n)) && He.tabsB (getT s) [] (He.frT (getT s) (He.asD (getT s) n))) = true := congrArg (fun z : He.AlX => z.2) b3
    have e1 := (Bool.and_eq_true_iff.mp c2).1
    have e2 := (Bool.and_eq_true_iff.mp d2).1
    have goal3 : He.obsX n fa fn [] [] (fun K => ex0 K && ex1 K) (getT s) = He.valX fn [] w := by
      show (He.obsT fa fn [] (He.frT (getT s) (He.asD (getT s) n)), (ex0 (He.frT (getT s) (He.asD (getT s) n)) && ex1 (He.frT (getT s) (He.asD (getT s) n))) && He.tabsB (getT s) [] (He.frT (getT s) (He.asD (getT s) n))) = _
      rw [c1, e1, e2]
      rfl
    exact congrArg some (Prod.ext a1 (Prod.ext a2 goal3))
theorem andL {a b : Bool} (h : (a && b) = true) : a = true := (Bool.and_eq_true_iff.mp h).1
theorem andR {a b : Bool} (h : (a && b) = true) : b = true := (Bool.and_eq_true_iff.mp h).2
/-! ### a smaller part of the heap: what the module's names reach, step by step, without a look for doubles -/
def refsM (o : Obj) : List Addr := He.refV o.cls ++ match o.data with
  | .seq its _ => its.toList.flatMap He.refV
  | .dict es _ => es.toList.flatMap fun e => He.refV e.val
  | .func fd => He.refV fd.code ++ (He.refV fd.defaults ++ (He.refV fd.kwdefaults ++ fd.closure.map (·.2)))
  | .cls cd => [cd.ns]
  | .fields vs => vs.toList.flatMap He.refV
  | .cell (some v) => He.refV v
  | _ => []
def stepM (g : Addr → Option Obj) (as : List Addr) : List Addr := as.flatMap fun a => match g a with
  | some o => refsM o
  | none => []
def layM (g : Addr → Option Obj) : Nat → List Addr → List Addr
  | 0, as => as
  | n + 1, as => as ++ layM g n (stepM g as)
def frM (g : Addr → Option Obj) (n : Nat) : PySem.W.Frag := He.frT g (layM g n [mainGlobals])
def obsM (n : Nat) (fa : List He.Fa) (fn : List He.DefD) (ex : PySem.W.Frag → Bool) (g : Addr → Option Obj) : He.AlX := (He.obsT fa fn [] (frM g n), ex (frM g n))
def hookM (n : Nat) (fa : List He.Fa) (fn : List He.DefD) (ex : PySem.W.Frag → Bool) : PySem.W.Hook where
  α := He.AlX
  obs := fun s => obsM n fa fn ex s.heap.get?
  val := fun w => He.valX fn [] w
  says := fun w h => ∃ K : PySem.W.Frag, K.In h ∧ He.SaysX fa fn [] [] ex w h K
  of := fun _ _ e => ⟨_, He.frT_in, ⟨congrArg (fun z : He.AlX => z.1) e, congrArg (fun z : He.AlX => z.2) e, (fun _ m => nomatch m), (fun _ m => nomatch m), fun _ m => nomatch m⟩⟩
  keeps := fun _ _ _ ⟨K, hK, c⟩ k => ⟨K, PySem.W.Frag.In.keeps hK k, ⟨c.t, c.more, c.hd, c.out, fun p hp => k _ _ (c.empty p hp)⟩⟩
theorem obsM_eq {n : Nat} {fa : List He.Fa} {fn : List He.DefD} {ex : PySem.W.Frag → Bool} {g : Addr → Option Obj} {s : Shared} (h : ∀ a, g a = s.heap.get? a) : obsM n fa fn ex g = (hookM n fa fn ex).obs s := by
  have e : g = s.heap.get? := funext h
  rw [e] <;> rfl
open HandSHeadRun in
/-- the state that the top leaves -/
noncomputable abbrev endW (p : Program) (M : Nat) (w : World) (os : OsState) : Option PySem.W.SharedT := endF (stepQ (denQ tabQ) p w) M p w os
open HandSHeadRun in
open PyProof.Rows PySem PySem.W PySem.Calls in
/-- the run's equation out of looks that are made one by one -/
theorem run_of {r : PySem.W.OpenRow} {q : Program} {M n : Nat} {loose : List Str} {w : World} {fa : List He.Fa} {fn : List He.DefD} {ex : PySem.W.Frag → Bool}
    (hl : ∀ os, (endW r.prog M w os).map (fun s => looksF r.prog (boot_heap w.params) s.abs) = some true)
    (hs : ∀ os, (endW r.prog M w os).map (fun s => seenQ q loose (importedModules r.prog.main.body) (fun s => PySem.W.xlAt q [] s && PySem.W.recOk r.toRowW.records s) s.abs) = some (PySem.W.openGood q loose))
    (hd : ∀ os, (endW r.prog M w os).map (fun s => He.obsD fa fn (frM (getT s) n)) = some (He.valD fn))
    (he : ∀ os, (endW r.prog M w os).map (fun s => ex (frM (getT s) n)) = some true) :
    RunEq r q (hookM n fa fn ex) (fun s => obsM n fa fn ex (getT s)) M loose w := by
  intro os
  have a := hl os
  have b := hs os
  have c := hd os
  have d := he os
  show (endW r.prog M w os).map _ = _
  revert a b c d
  generalize endW r.prog M w os = e
  intro a b c d
  cases e with
  | none => cases a
  | some s =>
    have a' := Option.some.inj a
    have b' := Option.some.inj b
    have c' := Option.some.inj c
    have d' := Option.some.inj d
    have o : obsM n fa fn ex (getT s) = He.valX fn [] w := by
      show ((He.obsD fa fn (frM (getT s) n), []), ex (frM (getT s) n)) = _
      rw [show He.obsD fa fn (frM (getT s) n) = He.valD fn from c', show ex (frM (getT s) n) = true from d']
      rfl
    exact congrArg some (Prod.ext a' (Prod.ext b' o))
/-- looks at parts of what the top leaves, put together -/
theorem ex_and {p : Program} {M n : Nat} {w : World} {ex0 ex1 : PySem.W.Frag → Bool} (h0 : ∀ os, (endW p M w os).map (fun s => ex0 (frM (HandSHeadRun.getT s) n)) = some true) (h1 : ∀ os, (endW p M w os).map (fun s => ex1 (frM (HandSHeadRun.getT s) n)) = some true) :
    ∀ os, (endW p M w os).map (fun s => (fun K => ex0 K && ex1 K) (frM (HandSHeadRun.getT s) n)) = some true := by
  intro os
  have a := h0 os
  have b := h1 os
  revert a b
  generalize endW p M w os = e
  intro a b
  cases e with
  | none => cases a
  | some s =>
    have a' : ex0 (frM (HandSHeadRun.getT s) n) = true := Option.some.inj a
    have b' : ex1 (frM (HandSHeadRun.getT s) n) = true := Option.some.inj b
    show some (ex0 (frM (HandSHeadRun.getT s) n) && ex1 (frM (HandSHeadRun.getT s) n)) = some true
    rw [a', b']
    rfl
theorem defs_and {p : Program} {M n : Nat} {w : World} {fa fb : List He.Fa} {fn gn : List He.DefD} (h0 : ∀ os, (endW p M w os).map (fun s => He.obsD fa fn (frM (HandSHeadRun.getT s) n)) = some (He.valD fn)) (h1 : ∀ os, (endW p M w os).map (fun s => He.obsD fb gn (frM (HandSHeadRun.getT s) n)) = some (He.valD gn)) :
    ∀ os, (endW p M w os).map (fun s => He.obsD (fa ++ fb) (fn ++ gn) (frM (HandSHeadRun.getT s) n)) = some (He.valD (fn ++ gn)) := by
  intro os
  have a := h0 os
  have b := h1 os
  revert a b
  generalize endW p M w os = e
  intro a b
  cases e with
  | none => cases a
  | some s =>
    have a' := Option.some.inj a
    have b' := Option.some.inj b
    have a1 : ((fa.all fun f => f.ok (frM (HandSHeadRun.getT s) n)) && fn.all fun d => d.ok (frM (HandSHeadRun.getT s) n)) = true := congrArg (fun z : He.AlD => z.1) a'
    have a2 : fn.map (fun d => He.fnW (frM (HandSHeadRun.getT s) n) d.at_) = fn.map He.DefD.val := congrArg (fun z : He.AlD => z.2) a'
    have b1 : ((fb.all fun f => f.ok (frM (HandSHeadRun.getT s) n)) && gn.all fun d => d.ok (frM (HandSHeadRun.getT s) n)) = true := congrArg (fun z : He.AlD => z.1) b'
    have b2 : gn.map (fun d => He.fnW (frM (HandSHeadRun.getT s) n) d.at_) = gn.map He.DefD.val := congrArg (fun z : He.AlD => z.2) b'
    obtain ⟨a3, a4⟩ := Bool.and_eq_true_iff.mp a1
    obtain ⟨b3, b4⟩ := Bool.and_eq_true_iff.mp b1
    refine congrArg some (Prod.ext ?_ ?_)
    · show (((fa ++ fb).all fun f => f.ok (frM (HandSHeadRun.getT s) n)) && (fn ++ gn).all fun d => d.ok (frM (HandSHeadRun.getT s) n)) = true
      rw [List.all_append, List.all_append, a3, a4, b3, b4]
      rfl
    · show (fn ++ gn).map _ = (fn ++ gn).map _
      rw [List.map_append, List.map_append, a2, b2]
end Hk

/-! Dicts whose keys are tuples: made empty, their length, their items one by one. -/
namespace Bt
open PySem PySem.Spec PyProof.Rows L2
/-- the empty dict, of tuple keys -/
theorem dnewT {σ : L2.St} {H : Hp} {Q : VK} (h : ∀ (p : Addr) (G : Hp), H p = none → G p = some (.dT []) → Same H G → Q (.ref p) G) : tDNewT σ H Q :=
  fun p hp => h p _ hp upd_same fun b u e => by rw [upd_ne (ne_of_none e hp)]; exact e
theorem lenT {H : Hp} {p : Addr} {kvs : List (List Key × V)} {Q : VK} (h : H p = some (.dT kvs)) (q : Q (.int (kvs.length : Nat)) H) : rLenT [.ref p] H Q := ⟨p, kvs, rfl, h, q⟩
section
variable {X : Cx} {pins : List (Addr × Obj)} {σ : L2.St} {H : Hp} {s : Shared} {d : Addr} {o : Obj}
/-- what a locked dict of tuple keys holds -/
theorem inside {kvs : List (List Key × V)} (J : Inv X pins σ H s) (h : H d = some (.frz o (.dT kvs))) :
    (d == sysModules) = false ∧ ∃ (es : Array DictEntry) (ep : Nat), DT.Raw s.heap d es ep ∧ o.data = .dict es ep ∧ es.size = kvs.length ∧
      ∀ (i : Nat) (k : List Key) (v : V), kvs[i]? = some (k, v) → ∃ (en : DictEntry) (q : Addr), es[i]? = some en ∧ en.key = .ref q ∧ H q = some (.tup (k.map kV)) ∧ RelV v en.val := by
  obtain ⟨here, _, nm, xs, pr, o2, es, ep, there, exact_, dat, ent, _⟩ := J.hok d _ h
  rw [here] at there
  cases there
  refine ⟨nm, es, ep, ⟨o, here, exact_, dat⟩, dat, ?_, fun i k v e => ?_⟩
  · exact (size_of_entries ent).trans (Paired.length pr).symm
  · obtain ⟨b, hb, _, tup, val⟩ := paired_get pr e
    have at_ := entry_at ent i
    rw [hb] at at_
    exact ⟨_, b.2.1, at_, rfl, tup, val⟩
end
/-- the pairs of a locked dict of tuple keys, each a new tuple -/
def Its (d : Addr) (o : Obj) (kvs : List (List Key × V)) : It where
  go := fun i H => H d = some (.frz o (.dT kvs)) ∧ i < kvs.length
  yld := fun i H x H' => ∃ (T q : Addr) (k : List Key) (v : V), kvs[i]? = some (k, v) ∧ x = .ref T ∧ H T = none ∧ H q = some (.tup (k.map kV)) ∧ H' = upd H T (.tup [.ref q, v])
  stop := fun i H => H d = some (.frz o (.dT kvs)) ∧ kvs.length ≤ i
def StI (d it ep n : Nat) (i : Nat) (h : Heap) : Prop := ∃ a b : Value, IsItemIter h it d i n ep a b
theorem turns {P : Program} {w : World} {K : PySem.W.Frag} {d : Addr} {o : Obj} {es : Array DictEntry} {ep : Nat} {kvs : List (List Key × V)} {elts : List Expr} {kk : Nat} {tpos : Pos} (it : Addr) (od : o.data = .dict es ep) :
    Turn P w K (.Tuple elts kk tpos) (Its d o kvs) [it] it (StI d it ep kvs.length) where
  mem := List.mem_singleton.mpr rfl
  obj := fun i h st b hb => by
    obtain rfl : b = it := List.mem_singleton.mp hb
    obtain ⟨x, y, e⟩ := st
    exact ⟨_, e, (fun _ c => nomatch c)⟩
  keep := fun i h h2 st k => by
    obtain ⟨x, y, e⟩ := st
    exact ⟨x, y, k it (List.mem_singleton.mpr rfl) _ e⟩
  item := by
    intro X eP ew eK calm i pins s σ H E J foot st going
    subst eP ew eK
    obtain ⟨hd, lt⟩ := going
    obtain ⟨_, es2, ep2, raw, dat, size, ents⟩ := inside J hd
    obtain ⟨rfl, rfl⟩ := dict_ep od dat
    obtain ⟨⟨k, v⟩, kv⟩ : ∃ p, kvs[i]? = some p := ⟨_, List.getElem?_eq_getElem lt⟩
    obtain ⟨en, q, ei, ek, tq, rv⟩ := ents i k v kv
    obtain ⟨x, y, he⟩ := st
    rw [← size] at he
    have below : it < s.heap.objs.size := Heap.lt_size he
    have ilt : i < es2.size := by omega
    have e_i : es2[i] = en := by
      rw [Array.getElem?_eq_getElem ilt] at ei
      exact Option.some.inj ei
    refine DT.nextI he raw ilt fun g out made grown kept => ?_
    rw [e_i] at out made
    refine ⟨_, rfl, wpAny_letOwnedTupleGo_items (s := { s with heap := g }) out fun g2 on same => ?_⟩
    have made2 : g2.get? s.heap.objs.size = some { cls := .type "tuple", data := .seq #[en.key, en.val] } :=
      Eq.trans (same.2 _ (Nat.ne_of_gt below)) made
    have fresh : H s.heap.objs.size = none := J.hok.fresh (Nat.le_refl _)
    have qn : q ≠ s.heap.objs.size := fun z => by rw [z, fresh] at tq; cases tq
    have okT : ObjOk X.prog X.w (upd H s.heap.objs.size (.tup [.ref q, v])) g2 s.heap.objs.size (.tup [.ref q, v]) :=
      ⟨by show 2 ≤ sizeLine; decide, [en.key, en.val], .cons ek (.cons rv .nil), ⟨_, made2, rfl, _, rfl⟩⟩
    have J2 : Inv X pins σ (upd H s.heap.objs.size (.tup [.ref q, v])) { s with heap := g2 } :=
      J.turnedNew (t' := s.toks) (ch := [it]) (fun b ob nb e => Eq.trans (same.2 b (fun z => nb (List.mem_singleton.mpr z))) (kept b ob (fun z => nb (List.mem_singleton.mpr z)) e)) foot (Nat.le_refl _) okT
    refine ⟨.ref s.heap.objs.size, _, J2, rfl, ⟨_, q, k, v, kv, rfl, fresh, tq, rfl⟩, ⟨en.key, en.val, ?_⟩, fun b hb => ?_⟩
    · rw [← size]
      exact on
    · obtain rfl : b = it := List.mem_singleton.mp hb
      rw [upd_ne (Nat.ne_of_lt below)]
      exact (foot _ hb).1
  done := by
    intro X eP ew eK calm i pins s σ H E J foot st over
    subst eP ew eK
    obtain ⟨hd, le⟩ := over
    obtain ⟨z0, z1, z2, z3, z4, z5⟩ := foot it (List.mem_singleton.mpr rfl)
    obtain ⟨_, es2, ep2, raw, dat, size, ents⟩ := inside J hd
    obtain ⟨rfl, rfl⟩ := dict_ep od dat
    obtain ⟨x, y, he⟩ := st
    rw [← size] at he
    exact DT.endI (J.ok.hd calm) he raw (by omega) fun g eb => ⟨rfl, J.turned (t' := s.toks) (fun b ob nb e => eb b ob nb e) z0 z1 z3 z4 z5⟩
  self := fun _ _ _ _ _ sit hh => by
    obtain ⟨x, y, e⟩ := sit
    exact PySem.W.kcp_self e hh
def iItemsT (td : TE) : TI := fun σ H R => td σ H fun x H1 => ∃ (d : Addr) (o : Obj) (kvs : List (List Key × V)), x = .ref d ∧ H1 d = some (.frz o (.dT kvs)) ∧ R (Its d o kvs) H1
theorem pi_itemsT {X : Cx} {e : Expr} {td : TE} {apos cpos : Pos} {elts : List Expr} {kk : Nat} {tpos : Pos} (he : PE X e td) (base : attributeBase e "items" X.env (eval e X.env) = eval e X.env := by rfl) (line : (apos.endLine == cpos.line) = true := by rfl) :
    PI X (.Tuple elts kk tpos) (.Call (.Attribute e "items" apos) [] [] cpos) (iItemsT td) := by
  refine ⟨fun pins s σ H R J h => ?_⟩
  refine wpAny_Call_method (T := "dict") (id := "dict.items") base rfl line F.plainAttrs_dict F.slot_dict_items F.type_dict_items (thn (he.run pins s σ H _ J h) fun u s1 ⟨x, H1, J1, rx, d, o, kvs, ex, hd, q⟩ => ?_)
  subst ex
  cases (show u = Value.ref d from rx)
  obtain ⟨nm, es, ep, raw, dat, size, _⟩ := inside J1 hd
  refine ⟨raw.typeIs, ?_, ?_⟩
  · rintro b e
    cases e
    obtain ⟨ob, hob, x, _⟩ := raw
    exact ⟨ob, hob, x.2.1⟩
  have J2 : Inv X pins σ H1 { s1 with heap := s1.heap.push { cls := .type "dict_items", data := .fields #[.ref d] } } := J1.kept (t' := s1.toks) fun b ob q => Heap.get?_push_of_some _ q
  have raw2 := raw.push { cls := .type "dict_items", data := .fields #[.ref d] }
  have walked : wpAny (model X.prog X.w) X.A (pyIter (.ref s1.heap.objs.size)) (PIE X pins σ (.Tuple elts kk tpos) R) X.xe { s1 with heap := s1.heap.push { cls := .type "dict_items", data := .fields #[.ref d] } } := by
    refine DT.iterI (d := d) (es := es) (ep := ep) ⟨_, Heap.get?_push_size _ rfl, rfl, rfl⟩ raw2 (pi_one (tk := s1.toks) J2 _ (turns _ dat) ⟨.none, .none, ?_⟩ q)
    rw [← size]
    exact (Heap.get?_push_size _ rfl)
  show wpAny _ _ (callWith (cpos) (.builtin "dict.items") [.ref d] [] []) _ X.xe s1
  exact method_meetsIn F.slot_dict_items F.entry_dict_items rfl (PySem.evalArgs_none ⟨rfl, raw.typeIs, F.args_dict_items_1 _, _, DT.meetsItems (es := es) (ep := ep) nm, raw, walked⟩)
theorem itemsTH {td : TE} {σ : L2.St} {H : Hp} {R : It → Hp → Prop} (h : td σ H fun x H1 => ∃ (d : Addr) (o : Obj) (kvs : List (List Key × V)), x = .ref d ∧ H1 d = some (.frz o (.dT kvs)) ∧ R (Its d o kvs) H1) : iItemsT td σ H R := h
theorem get2H {td ty tx : TE} {σ : L2.St} {H : Hp} {Q : VK} (h : td σ H fun x H1 => ∃ a, x = .ref a ∧ IsD H1 a ∧ ty σ H1 fun y H2 => tx σ H2 fun z H3 => ∃ o, DGet H3 a y o ∧ Q (o.getD z) H3) : tDGet2 td ty tx σ H Q := h
/-- .. walked -/
theorem walk_itemsT {d : Addr} {o : Obj} {kvs : List (List Key × V)} : Walk (Its d o kvs) kvs.length (fun H => H d = some (.frz o (.dT kvs)))
    (fun i H x H' => ∃ (T q : Addr) (k : List Key) (v : V), kvs[i]? = some (k, v) ∧ x = .ref T ∧ H T = none ∧ H q = some (.tup (k.map kV)) ∧ H' = upd H T (.tup [.ref q, v])) :=
  ⟨fun _ _ lt q => ⟨q, lt⟩, fun _ q => ⟨q, Nat.le_refl _⟩, fun _ _ _ _ _ _ y => y⟩
theorem keysT {d : Addr} {od : Obj} {kvs : List (List Key × V)} {H : Hp} {P : Addr → Obj → List (Key × V) → Prop} {P' : Addr → Obj → List (List Key × V) → Prop} (e : H d = some (.frz od (.dT kvs))) (h : P' d od kvs) :
    ∃ d' o, V.ref d = .ref d' ∧ ((∃ kvs, H d' = some (.frz o (.dK kvs)) ∧ P d' o kvs) ∨ ∃ kvs, H d' = some (.frz o (.dT kvs)) ∧ P' d' o kvs) := ⟨d, od, rfl, .inr ⟨kvs, e, h⟩⟩
/-- a statement while a dict is locked -/
theorem lockS {t : TS} {D : Ends} {σ : L2.St} {H : Hp} {d : Addr} {u : HO} (e : H d = some u) (m : Mut (some u))
    (h : ∀ (od : Obj) (G : Hp), G d = some (.frz od u) → (∀ b, b ≠ d → G b = H b) → t ⟨fun σ' H' => H' d = some (.frz od u) ∧ D.nx σ' (upd H' d u), fun v H' => H' d = some (.frz od u) ∧ D.rt v (upd H' d u), fun σ' H' => H' d = some (.frz od u) ∧ D.bk σ' (upd H' d u), fun σ' H' => H' d = some (.frz od u) ∧ D.ct σ' (upd H' d u)⟩ σ G) : tLock t D σ H :=
  ⟨d, u, e, m, fun od => h od _ upd_same fun b hb => upd_ne hb⟩
/-- what was laid while the dict was locked, with the dict as it was -/
theorem lockB {H G H1 : Hp} {d : Addr} {u : HO} (e : H d = some u) (off : ∀ b, b ≠ d → G b = H b) (s : Same G H1) : Same H (upd H1 d u) := fun b o z => by
  by_cases c : b = d
  · rw [c] at z ⊢
    rw [upd_same, ← e, z]
  · rw [upd_ne c]
    exact s _ _ (by rw [off b c]; exact z)
end Bt

/-! != with a number on the left and an own object on the right. -/
namespace Bv
open PySem PySem.Spec PySem.W PyProof.Rows
open AutoSeq1 (wpAny_loadPart')
section
variable {prog : Program} {w : World} {A : Around} {E : Value → Shared → Prop} {s : Shared} {K : Frag} {x C dx f : Addr}
theorem int_ne {i : Int} {t : Tok} {R : Fin → Shared → Prop} (hx : s.heap.get? x = some (instObj C dx)) (h : R (.done (.ret .notImplemented)) s) : wpAny (model prog w) A (Builtin.«int.__ne__» ⟨[.int i t, .ref x], []⟩) R E s := by
  obtain ⟨hp, g, d, tk, os⟩ := s
  wp_walk using wpAny_loadPart' hx
  exact h
theorem rcN {v : Value} {T : String} {od : Option Obj} {R : Value → Shared → Prop} (hu : A.units + 1 < cLine) (X : K.In s.heap) (I : InstAt s.heap x (instObj C dx) C od) (ty : s.TypeIs v T) (two : oneThing? .NotEq v (.ref x) = none) (no : mroIn K C (.type T) = some false)
    (hm : mroIn K C (.type "object") = some true) (ne : findIn K (.ref C) "__ne__" = some (some (.builtin "object.__ne__"))) (eq : findIn K (.ref C) "__eq__" = some (some (.ref f))) (fn : isFn K (.ref f) = true)
    (dec : ∀ Q : Option Value → Shared → Prop, Q none s → wpAny (model prog w) A (tryCompare v "__ne__" (.ref x)) Q E s)
    (h : wpAny (model prog w) A.in1 (call (.ref f) [.ref x, v]) (fun r s' => ∃ k, r = .bool k ∧ R (.bool (!k)) s') E s) : wpAny (model prog w) A (richCompare .NotEq v (.ref x)) R E s := by
  have back : wpAny (model prog w) A (tryCompare (.ref x) "__ne__" v) (fun r s' => ∃ z, r = some z ∧ R z s') E s := by
    unfold tryCompare
    refine wpAny_bind (Ro.ifBound_ne X I ne (Ro.call_ne X I hm eq fn hu (wpAny_mono h (fun r s' hr => ?_) fun _ _ e => e)))
    obtain ⟨k, rfl, q⟩ := hr
    exact ⟨k, rfl, wpAny_pure ⟨_, rfl, q⟩⟩
  simp only [richCompare, cmpInfo_NotEq, two]
  refine wpAny_holding (wpAny_bind (wpAny_cRoomFor (Nat.lt_of_succ_lt hu) ?_))
  refine wpAny_bind (wpAny_typeOf ty (wpAny_bind (I.type.here ?_)))
  split
  · refine wpAny_bind ((looks_mroIn X no).here ?_)
    simp only [Bool.false_eq_true, if_false, Bool.not_false, if_true]
    refine wpAny_bind (dec _ ?_)
    refine wpAny_bind (wpAny_mono back (fun r s' z => ?_) fun _ _ e => e)
    obtain ⟨y, rfl, hq⟩ := z
    exact wpAny_pure hq
  · rename_i q
    exact absurd (by simp) q
end
end Bv
namespace Bv
open PySem PySem.Spec PyProof.Rows L2 Rd
section
variable {X : Cx} {n : Nat} {CX : CXT} {C f : Addr} {fd : FuncData} {ps : List Str} {sp : Sp} {E : XK}
/-- a number on the left, an instance of C on the right -/
def rIN (C : Addr) (sp : Sp) (E : XK) : R2 := fun x y H Q => ∃ i b dy gs, x = .int i ∧ y = .ref b ∧ H b = some (.ins C dy gs) ∧ sp [y, x] H (fun v H' => ∃ k, v = .bl k ∧ Q (.bl (!k)) H') E
theorem op_in (O : Ro.OwnE X.K C f) (no : PySem.W.mroIn X.K C (.type "int") = some false) (F : FnOk X.prog X.w X.K X.mg X.base CX n f fd ps sp) (hb : Binds X.K fd ps []) (hx : Passes CX X E) (hr : Room (n + 1) X.A) : OpR X (compareOp .NotEq) (rIN C sp E) := by
  intro pins s σ H x y v u Q I rx ry hq
  obtain ⟨i, b, dy, gs, rfl, rfl, hi, hsp⟩ := hq
  cases ry
  obtain ⟨t, rfl⟩ := id rx
  have hob := (show ObjOk X.prog X.w H s.heap b (.ins C dy gs) from I.hok b _ hi).2.2.2.1
  obtain ⟨mB, J, _⟩ := ins_get I.hok hi
  obtain ⟨od, J, _⟩ := J.look
  refine rcN hr.in1.units0 I.kIn J (T := "int") rfl rfl no O.hm O.ne O.eq O.fn (fun Q q => wpAny_tryCompare_declines rfl PySem.F.slot_int_ne (GQ.call_here PySem.F.slot_int_ne rfl PySem.F.entry_int_ne (PySem.F.args_int_ne_2 _ _) (int_ne hob ⟨rfl, q⟩))) ?_
  refine wpAny_mono (Ro.run_eq F hb hx hr.in1 rfl I (x := .ref b) rfl rx hsp) (fun r s' z => ?_) fun _ _ e => e
  obtain ⟨z, H', I', rz, k, ez, q⟩ := z
  subst ez
  cases rz
  exact ⟨k, rfl, .bl (!k), H', I', rfl, q⟩
end
end Bv

namespace W
open PySem PySem.Spec PyProof.Rows L2
def top (i : Nat) : Stmt := PySem.Challenge.pw_watchedways_k37_roads_asked.main.body.getD i (.Pass ⟨0, 0, 0, 0⟩)
abbrev s_WayError_init : Stmt := inClass (top 2) 0
abbrev s_is_integer : Stmt := top 22
abbrev s_common : Stmt := top 36
abbrev s_Ratio_init : Stmt := inClass (top 37) 0
abbrev s_is_number : Stmt := top 38
abbrev s_Numbers_init : Stmt := inClass (top 41) 0
abbrev s_Numbers_eq : Stmt := inClass (top 41) 1
abbrev s_Numbers_is_worth : Stmt := inClass (top 41) 2
abbrev s_Lengths_init : Stmt := inClass (top 34) 0
abbrev s_Lengths_eq : Stmt := inClass (top 34) 1
abbrev s_Lengths_is_worth : Stmt := inClass (top 34) 2
abbrev s_is_square : Stmt := top 45
abbrev s_check_size : Stmt := top 46
abbrev s_check_singles : Stmt := top 47
abbrev s_check_swaps : Stmt := top 48
abbrev s_check_grouping : Stmt := top 49
abbrev s_check_over : Stmt := top 50
abbrev s_Reckoning_joined : Stmt := inClass (top 51) 7
abbrev s_Reckoning_met : Stmt := inClass (top 51) 8
abbrev s_Reckoning_init : Stmt := inClass (top 51) 0
abbrev s_Reckoning_eq : Stmt := inClass (top 51) 1
abbrev s_Reckoning_is_worth : Stmt := inClass (top 51) 2
abbrev s_Reckoning_check : Stmt := inClass (top 51) 3
abbrev s_Reckoning_join : Stmt := inClass (top 51) 4
abbrev s_Reckoning_times : Stmt := inClass (top 51) 5
abbrev s_Lengths_check : Stmt := inClass (top 34) 3
abbrev s_Lengths_join : Stmt := inClass (top 34) 4
abbrev s_Lengths_times : Stmt := inClass (top 34) 5
abbrev s_as_ratio : Stmt := top 39
abbrev s_Ratio_add : Stmt := inClass (top 37) 2
abbrev s_Ratio_radd : Stmt := inClass (top 37) 3
abbrev s_Ratio_mul : Stmt := inClass (top 37) 6
abbrev s_Ratio_rmul : Stmt := inClass (top 37) 7
abbrev s_Ratio_eq : Stmt := inClass (top 37) 1
abbrev s_Numbers_check : Stmt := inClass (top 41) 3
abbrev s_Numbers_join : Stmt := inClass (top 41) 4
abbrev s_Numbers_times : Stmt := inClass (top 41) 5
abbrev s_is_letters : Stmt := top 23
abbrev s_is_letter : Stmt := top 24
abbrev s_is_name : Stmt := top 25
abbrev s_check_reckoning : Stmt := top 77
abbrev s_plain_worth : Stmt := top 78
abbrev s_checked_places : Stmt := top 82
abbrev s_is_road : Stmt := top 83
abbrev s_checked_roads : Stmt := top 84
abbrev s_Web_init : Stmt := inClass (top 88) 0
abbrev s_Web_worth : Stmt := inClass (top 88) 2
abbrev s_l_hand : Stmt := top 90
abbrev s_l_draw : Stmt := top 91
abbrev s_l_chain : Stmt := top 92
abbrev s_l_products : Stmt := top 93
abbrev s_l_monoid : Stmt := top 94
abbrev s_l_lot : Stmt := top 95
abbrev s_l_lots : Stmt := top 96
abbrev s_l_paired : Stmt := top 97
abbrev s_l_beside : Stmt := top 98
abbrev s_l_turned : Stmt := top 99
abbrev s_l_order : Stmt := top 100
abbrev s_l_renamed : Stmt := top 101
abbrev s_l_made : Stmt := top 102
abbrev s_l_names : Stmt := top 103
abbrev s_l_reckoning : Stmt := top 104
abbrev s_l_none : Stmt := top 105
abbrev s_l_handed : Stmt := top 110
abbrev s_l_world : Stmt := top 111
abbrev s_l_worth : Stmt := top 112
abbrev s_l_roads : Stmt := top 113
abbrev s_l_web : Stmt := top 114
abbrev s_l_is_worth : Stmt := top 109
abbrev s_l_place : Stmt := top 115
abbrev s_l_letter : Stmt := top 116
abbrev s_l_asked : Stmt := top 117
abbrev s_l_is_place : Stmt := top 118
abbrev s_l_right : Stmt := top 119
abbrev s_law : Stmt := top 120
theorem sc_WayError_init : FnScope ["self", "value"] ["self", "value"] (defScope s_WayError_init) := ⟨rfl, rfl, rfl, by decide +kernel, rfl, by decide +kernel, by decide +kernel⟩
theorem sc_is_integer : FnScope ["value"] ["value"] (defScope s_is_integer) := ⟨rfl, rfl, rfl, by decide +kernel, rfl, by decide +kernel, by decide +kernel⟩
theorem sc_common : FnScope ["one", "other"] ["one", "other"] (defScope s_common) := ⟨rfl, rfl, rfl, by decide +kernel, rfl, by decide +kernel, by decide +kernel⟩
theorem sc_Ratio_init : FnScope ["self", "top", "bottom", "part"] ["self", "top", "bottom"] (defScope s_Ratio_init) := ⟨rfl, rfl, rfl, by decide +kernel, rfl, by decide +kernel, by decide +kernel⟩
theorem sc_is_number : FnScope ["value"] ["value"] (defScope s_is_number) := ⟨rfl, rfl, rfl, by decide +kernel, rfl, by decide +kernel, by decide +kernel⟩
theorem sc_Numbers_init : FnScope ["self"] ["self"] (defScope s_Numbers_init) := ⟨rfl, rfl, rfl, by decide +kernel, rfl, by decide +kernel, by decide +kernel⟩
theorem sc_Numbers_eq : FnScope ["self", "other"] ["self", "other"] (defScope s_Numbers_eq) := ⟨rfl, rfl, rfl, by decide +kernel, rfl, by decide +kernel, by decide +kernel⟩
theorem sc_Numbers_is_worth : FnScope ["self", "thing"] ["self", "thing"] (defScope s_Numbers_is_worth) := ⟨rfl, rfl, rfl, by decide +kernel, rfl, by decide +kernel, by decide +kernel⟩
theorem sc_Lengths_init : FnScope ["self"] ["self"] (defScope s_Lengths_init) := ⟨rfl, rfl, rfl, by decide +kernel, rfl, by decide +kernel, by decide +kernel⟩
theorem sc_Lengths_eq : FnScope ["self", "other"] ["self", "other"] (defScope s_Lengths_eq) := ⟨rfl, rfl, rfl, by decide +kernel, rfl, by decide +kernel, by decide +kernel⟩
theorem sc_Lengths_is_worth : FnScope ["self", "thing"] ["self", "thing"] (defScope s_Lengths_is_worth) := ⟨rfl, rfl, rfl, by decide +kernel, rfl, by decide +kernel, by decide +kernel⟩
theorem sc_is_square : FnScope ["rows", "size", "row", "worth"] ["rows", "size"] (defScope s_is_square) := ⟨rfl, rfl, rfl, by decide +kernel, rfl, by decide +kernel, by decide +kernel⟩
theorem sc_check_size : FnScope ["joins", "products", "none", "one", "size", "fits", "worth"] ["joins", "products", "none", "one"] (defScope s_check_size) := ⟨rfl, rfl, rfl, by decide +kernel, rfl, by decide +kernel, by decide +kernel⟩
theorem sc_check_singles : FnScope ["joins", "products", "none", "one", "size", "a", "sums"] ["joins", "products", "none", "one"] (defScope s_check_singles) := ⟨rfl, rfl, rfl, by decide +kernel, rfl, by decide +kernel, by decide +kernel⟩
theorem sc_check_swaps : FnScope ["joins", "a", "b"] ["joins"] (defScope s_check_swaps) := ⟨rfl, rfl, rfl, by decide +kernel, rfl, by decide +kernel, by decide +kernel⟩
theorem sc_check_grouping : FnScope ["word", "rows", "size", "a", "b", "c"] ["word", "rows"] (defScope s_check_grouping) := ⟨rfl, rfl, rfl, by decide +kernel, rfl, by decide +kernel, by decide +kernel⟩
theorem sc_check_over : FnScope ["joins", "products", "size", "a", "b", "c", "both", "behind"] ["joins", "products"] (defScope s_check_over) := ⟨rfl, rfl, rfl, by decide +kernel, rfl, by decide +kernel, by decide +kernel⟩
theorem sc_Reckoning_joined : FnScope ["self", "worths", "found", "worth"] ["self", "worths"] (defScope s_Reckoning_joined) := ⟨rfl, rfl, rfl, by decide +kernel, rfl, by decide +kernel, by decide +kernel⟩
theorem sc_Reckoning_met : FnScope ["self", "a", "b", "x"] ["self", "a", "b"] (defScope s_Reckoning_met) := ⟨rfl, rfl, rfl, by decide +kernel, rfl, by decide +kernel, by decide +kernel⟩
theorem sc_Reckoning_init : FnScope ["self", "joins", "products", "none", "one", "size", "a", "c", "row", "b"] ["self", "joins", "products", "none", "one"] (defScope s_Reckoning_init) := ⟨rfl, rfl, rfl, by decide +kernel, rfl, by decide +kernel, by decide +kernel⟩
theorem sc_Reckoning_eq : FnScope ["self", "other"] ["self", "other"] (defScope s_Reckoning_eq) := ⟨rfl, rfl, rfl, by decide +kernel, rfl, by decide +kernel, by decide +kernel⟩
theorem sc_Reckoning_is_worth : FnScope ["self", "thing"] ["self", "thing"] (defScope s_Reckoning_is_worth) := ⟨rfl, rfl, rfl, by decide +kernel, rfl, by decide +kernel, by decide +kernel⟩
theorem sc_Reckoning_check : FnScope ["self", "worths", "worth"] ["self", "worths"] (defScope s_Reckoning_check) := ⟨rfl, rfl, rfl, by decide +kernel, rfl, by decide +kernel, by decide +kernel⟩
theorem sc_Reckoning_join : FnScope ["self", "a", "b"] ["self", "a", "b"] (defScope s_Reckoning_join) := ⟨rfl, rfl, rfl, by decide +kernel, rfl, by decide +kernel, by decide +kernel⟩
theorem sc_Reckoning_times : FnScope ["self", "a", "b"] ["self", "a", "b"] (defScope s_Reckoning_times) := ⟨rfl, rfl, rfl, by decide +kernel, rfl, by decide +kernel, by decide +kernel⟩
theorem sc_Lengths_check : FnScope ["self", "worths", "worth"] ["self", "worths"] (defScope s_Lengths_check) := ⟨rfl, rfl, rfl, by decide +kernel, rfl, by decide +kernel, by decide +kernel⟩
theorem sc_Lengths_join : FnScope ["self", "a", "b"] ["self", "a", "b"] (defScope s_Lengths_join) := ⟨rfl, rfl, rfl, by decide +kernel, rfl, by decide +kernel, by decide +kernel⟩
theorem sc_Lengths_times : FnScope ["self", "a", "b"] ["self", "a", "b"] (defScope s_Lengths_times) := ⟨rfl, rfl, rfl, by decide +kernel, rfl, by decide +kernel, by decide +kernel⟩
theorem sc_as_ratio : FnScope ["value"] ["value"] (defScope s_as_ratio) := ⟨rfl, rfl, rfl, by decide +kernel, rfl, by decide +kernel, by decide +kernel⟩
theorem sc_Ratio_add : FnScope ["self", "other"] ["self", "other"] (defScope s_Ratio_add) := ⟨rfl, rfl, rfl, by decide +kernel, rfl, by decide +kernel, by decide +kernel⟩
theorem sc_Ratio_radd : FnScope ["self", "other"] ["self", "other"] (defScope s_Ratio_radd) := ⟨rfl, rfl, rfl, by decide +kernel, rfl, by decide +kernel, by decide +kernel⟩
theorem sc_Ratio_mul : FnScope ["self", "other"] ["self", "other"] (defScope s_Ratio_mul) := ⟨rfl, rfl, rfl, by decide +kernel, rfl, by decide +kernel, by decide +kernel⟩
theorem sc_Ratio_rmul : FnScope ["self", "other"] ["self", "other"] (defScope s_Ratio_rmul) := ⟨rfl, rfl, rfl, by decide +kernel, rfl, by decide +kernel, by decide +kernel⟩
theorem sc_Ratio_eq : FnScope ["self", "other"] ["self", "other"] (defScope s_Ratio_eq) := ⟨rfl, rfl, rfl, by decide +kernel, rfl, by decide +kernel, by decide +kernel⟩
theorem sc_Numbers_check : FnScope ["self", "worths", "worth"] ["self", "worths"] (defScope s_Numbers_check) := ⟨rfl, rfl, rfl, by decide +kernel, rfl, by decide +kernel, by decide +kernel⟩
theorem sc_Numbers_join : FnScope ["self", "a", "b"] ["self", "a", "b"] (defScope s_Numbers_join) := ⟨rfl, rfl, rfl, by decide +kernel, rfl, by decide +kernel, by decide +kernel⟩
theorem sc_Numbers_times : FnScope ["self", "a", "b"] ["self", "a", "b"] (defScope s_Numbers_times) := ⟨rfl, rfl, rfl, by decide +kernel, rfl, by decide +kernel, by decide +kernel⟩
theorem sc_is_letters : FnScope ["value", "letter"] ["value"] (defScope s_is_letters) := ⟨rfl, rfl, rfl, by decide +kernel, rfl, by decide +kernel, by decide +kernel⟩
theorem sc_is_letter : FnScope ["value"] ["value"] (defScope s_is_letter) := ⟨rfl, rfl, rfl, by decide +kernel, rfl, by decide +kernel, by decide +kernel⟩
theorem sc_is_name : FnScope ["value"] ["value"] (defScope s_is_name) := ⟨rfl, rfl, rfl, by decide +kernel, rfl, by decide +kernel, by decide +kernel⟩
theorem sc_check_reckoning : FnScope ["thing"] ["thing"] (defScope s_check_reckoning) := ⟨rfl, rfl, rfl, by decide +kernel, rfl, by decide +kernel, by decide +kernel⟩
theorem sc_plain_worth : FnScope ["reckoning", "worth"] ["reckoning", "worth"] (defScope s_plain_worth) := ⟨rfl, rfl, rfl, by decide +kernel, rfl, by decide +kernel, by decide +kernel⟩
theorem sc_checked_places : FnScope ["places", "at", "name"] ["places"] (defScope s_checked_places) := ⟨rfl, rfl, rfl, by decide +kernel, rfl, by decide +kernel, by decide +kernel⟩
theorem sc_is_road : FnScope ["reckoning", "places", "road", "name"] ["reckoning", "places", "road"] (defScope s_is_road) := ⟨rfl, rfl, rfl, by decide +kernel, rfl, by decide +kernel, by decide +kernel⟩
theorem sc_checked_roads : FnScope ["reckoning", "places", "roads", "found", "at", "road"] ["reckoning", "places", "roads"] (defScope s_checked_roads) := ⟨rfl, rfl, rfl, by decide +kernel, rfl, by decide +kernel, by decide +kernel⟩
theorem sc_Web_init : FnScope ["self", "reckoning", "places", "roads", "key", "worth"] ["self", "reckoning", "places", "roads"] (defScope s_Web_init) := ⟨rfl, rfl, rfl, by decide +kernel, rfl, by decide +kernel, by decide +kernel⟩
theorem sc_Web_worth : FnScope ["self", "one", "letter", "other"] ["self", "one", "letter", "other"] (defScope s_Web_worth) := ⟨rfl, rfl, rfl, by decide +kernel, rfl, by decide +kernel, by decide +kernel⟩
theorem sc_l_hand : FnScope ["_law_script", "_law_cells", "_law_cell"] ["_law_script"] (defScope s_l_hand) := ⟨rfl, rfl, rfl, by decide +kernel, rfl, by decide +kernel, by decide +kernel⟩
theorem sc_l_draw : FnScope ["_law_hand_here", "_law_many", "_law_cell", "_law_digit", "_law_number"] ["_law_hand_here", "_law_many"] (defScope s_l_draw) := ⟨rfl, rfl, rfl, by decide +kernel, rfl, by decide +kernel, by decide +kernel⟩
theorem sc_l_chain : FnScope ["_law_products_here", "_law_many", "_law_a", "_law_b"] ["_law_products_here"] (defScope s_l_chain) := ⟨rfl, rfl, rfl, by decide +kernel, rfl, by decide +kernel, by decide +kernel⟩
theorem sc_l_products : FnScope ["_law_hand_here", "_law_kind", "_law_many", "_law_top", "_law_a", "_law_b"] ["_law_hand_here"] (defScope s_l_products) := ⟨rfl, rfl, rfl, by decide +kernel, rfl, by decide +kernel, by decide +kernel⟩
theorem sc_l_monoid : FnScope ["_law_hand_here", "_law_found"] ["_law_hand_here"] (defScope s_l_monoid) := ⟨rfl, rfl, rfl, by decide +kernel, rfl, by decide +kernel, by decide +kernel⟩
theorem sc_l_lot : FnScope ["_law_products_here", "_law_one_here", "_law_other", "_law_found", "_law_many", "_law_x", "_law_y"] ["_law_products_here", "_law_one_here", "_law_other"] (defScope s_l_lot) := ⟨rfl, rfl, rfl, by decide +kernel, rfl, by decide +kernel, by decide +kernel⟩
theorem sc_l_lots : FnScope ["_law_products_here", "_law_one_here", "_law_size", "_law_joins", "_law_a", "_law_b"] ["_law_products_here", "_law_one_here"] (defScope s_l_lots) := ⟨rfl, rfl, rfl, by decide +kernel, rfl, by decide +kernel, by decide +kernel⟩
theorem sc_l_paired : FnScope ["_law_one_here", "_law_other", "_law_many", "_law_found", "_law_a", "_law_row", "_law_b"] ["_law_one_here", "_law_other"] (defScope s_l_paired) := ⟨rfl, rfl, rfl, by decide +kernel, rfl, by decide +kernel, by decide +kernel⟩
theorem sc_l_beside : FnScope ["_law_one_here", "_law_other", "_law_many", "_law_parts"] ["_law_one_here", "_law_other"] (defScope s_l_beside) := ⟨rfl, rfl, rfl, by decide +kernel, rfl, by decide +kernel, by decide +kernel⟩
theorem sc_l_turned : FnScope ["_law_told", "_law_many", "_law_a", "_law_b"] ["_law_told"] (defScope s_l_turned) := ⟨rfl, rfl, rfl, by decide +kernel, rfl, by decide +kernel, by decide +kernel⟩
theorem sc_l_order : FnScope ["_law_hand_here", "_law_many", "_law_rest", "_law_found", "_law_turn"] ["_law_hand_here", "_law_many"] (defScope s_l_order) := ⟨rfl, rfl, rfl, by decide +kernel, rfl, by decide +kernel, by decide +kernel⟩
theorem sc_l_renamed : FnScope ["_law_told", "_law_order_here", "_law_many", "_law_back", "_law_parts", "_law_rows", "_law_a", "_law_b"] ["_law_told", "_law_order_here"] (defScope s_l_renamed) := ⟨rfl, rfl, rfl, by decide +kernel, rfl, by decide +kernel, by decide +kernel⟩
theorem sc_l_made : FnScope ["_law_hand_here", "_law_kind", "_law_told", "_law_small", "_law_products_here", "_law_one_here"] ["_law_hand_here"] (defScope s_l_made) := ⟨rfl, rfl, rfl, by decide +kernel, rfl, by decide +kernel, by decide +kernel⟩
theorem sc_l_names : FnScope ["_law_hand_here", "_law_many", "_law_letters", "_law_start", "_law_k", "_law_stem", "_law_at", "_law_names_here", "_law_name"] ["_law_hand_here", "_law_many"] (defScope s_l_names) := ⟨rfl, rfl, rfl, by decide +kernel, rfl, by decide +kernel, by decide +kernel⟩
theorem sc_l_reckoning : FnScope ["_law_world_here"] ["_law_world_here"] (defScope s_l_reckoning) := ⟨rfl, rfl, rfl, by decide +kernel, rfl, by decide +kernel, by decide +kernel⟩
theorem sc_l_none : FnScope ["_law_world_here"] ["_law_world_here"] (defScope s_l_none) := ⟨rfl, rfl, rfl, by decide +kernel, rfl, by decide +kernel, by decide +kernel⟩
theorem sc_l_handed : FnScope ["_law_world_here", "_law_worth_here"] ["_law_world_here", "_law_worth_here"] (defScope s_l_handed) := ⟨rfl, rfl, rfl, by decide +kernel, rfl, by decide +kernel, by decide +kernel⟩
theorem sc_l_world : FnScope ["_law_hand_here", "_law_kind"] ["_law_hand_here"] (defScope s_l_world) := ⟨rfl, rfl, rfl, by decide +kernel, rfl, by decide +kernel, by decide +kernel⟩
theorem sc_l_worth : FnScope ["_law_hand_here", "_law_world_here", "_law_top", "_law_worth_here"] ["_law_hand_here", "_law_world_here"] (defScope s_l_worth) := ⟨rfl, rfl, rfl, by decide +kernel, rfl, by decide +kernel, by decide +kernel⟩
theorem sc_l_roads : FnScope ["_law_hand_here", "_law_world_here", "_law_many", "_law_letters", "_law_share", "_law_roads_here", "_law_letter_here", "_law_p", "_law_q"] ["_law_hand_here", "_law_world_here", "_law_many", "_law_letters"] (defScope s_l_roads) := ⟨rfl, rfl, rfl, by decide +kernel, rfl, by decide +kernel, by decide +kernel⟩
theorem sc_l_web : FnScope ["_law_world_here", "_law_names_here", "_law_roads_here", "_law_rows", "_law_key"] ["_law_world_here", "_law_names_here", "_law_roads_here"] (defScope s_l_web) := ⟨rfl, rfl, rfl, by decide +kernel, rfl, by decide +kernel, by decide +kernel⟩
theorem sc_l_is_worth : FnScope ["_law_world_here", "_law_told", "_law_due"] ["_law_world_here", "_law_told", "_law_due"] (defScope s_l_is_worth) := ⟨rfl, rfl, rfl, by decide +kernel, rfl, by decide +kernel, by decide +kernel⟩
theorem sc_l_place : FnScope ["_law_hand_here", "_law_names_here", "_law_name", "_law_odd"] ["_law_hand_here", "_law_names_here"] (defScope s_l_place) := ⟨rfl, rfl, rfl, by decide +kernel, rfl, by decide +kernel, by decide +kernel⟩
theorem sc_l_letter : FnScope ["_law_hand_here"] ["_law_hand_here"] (defScope s_l_letter) := ⟨rfl, rfl, rfl, by decide +kernel, rfl, by decide +kernel, by decide +kernel⟩
theorem sc_l_asked : FnScope ["_law_web_here", "_law_one_here", "_law_letter_here", "_law_other", "_law_told", "e"] ["_law_web_here", "_law_one_here", "_law_letter_here", "_law_other"] (defScope s_l_asked) := ⟨rfl, rfl, rfl, by decide +kernel, rfl, by decide +kernel, by decide +kernel⟩
theorem sc_l_is_place : FnScope ["_law_thing", "_law_names_here"] ["_law_thing", "_law_names_here"] (defScope s_l_is_place) := ⟨rfl, rfl, rfl, by decide +kernel, rfl, by decide +kernel, by decide +kernel⟩
theorem sc_l_right : FnScope ["_law_world_here", "_law_names_here", "_law_roads_here", "_law_one_here", "_law_letter_here", "_law_other", "_law_told", "_law_due", "_law_key"] ["_law_world_here", "_law_names_here", "_law_roads_here", "_law_one_here", "_law_letter_here", "_law_other", "_law_told"] (defScope s_l_right) := ⟨rfl, rfl, rfl, by decide +kernel, rfl, by decide +kernel, by decide +kernel⟩
theorem sc_law : FnScope ["_law_script", "_law_hand_here", "_law_world_here", "_law_names_here", "_law_roads_here", "_law_web_here", "_law_turn", "_law_one_here", "_law_letter_here", "_law_other", "_law_again", "_law_key", "_law_told"] ["_law_script"] (defScope s_law) := ⟨rfl, rfl, rfl, by decide +kernel, rfl, by decide +kernel, by decide +kernel⟩
structure Txt (K : PySem.W.Frag) (mg : Str → Option Value) where
  C_Ratio : Addr
  c_Ratio : mg "Ratio" = some (.ref C_Ratio)
  cl_Ratio : Cls K C_Ratio
  ty_Ratio : OwnTy K C_Ratio
  na_Ratio_top : NoAttr K C_Ratio "top"
  na_Ratio_bottom : NoAttr K C_Ratio "bottom"
  C_Numbers : Addr
  c_Numbers : mg "Numbers" = some (.ref C_Numbers)
  cl_Numbers : Cls K C_Numbers
  ty_Numbers : OwnTy K C_Numbers
  na_Numbers_none : NoAttr K C_Numbers "none"
  na_Numbers_one : NoAttr K C_Numbers "one"
  C_Lengths : Addr
  c_Lengths : mg "Lengths" = some (.ref C_Lengths)
  cl_Lengths : Cls K C_Lengths
  ty_Lengths : OwnTy K C_Lengths
  na_Lengths_none : NoAttr K C_Lengths "none"
  na_Lengths_one : NoAttr K C_Lengths "one"
  C_Reckoning : Addr
  c_Reckoning : mg "Reckoning" = some (.ref C_Reckoning)
  cl_Reckoning : Cls K C_Reckoning
  ty_Reckoning : OwnTy K C_Reckoning
  na_Reckoning_joins : NoAttr K C_Reckoning "joins"
  na_Reckoning_products : NoAttr K C_Reckoning "products"
  na_Reckoning_none : NoAttr K C_Reckoning "none"
  na_Reckoning_one : NoAttr K C_Reckoning "one"
  na_Reckoning_meets : NoAttr K C_Reckoning "meets"
  na_Reckoning_lefts : NoAttr K C_Reckoning "lefts"
  na_Reckoning_rights : NoAttr K C_Reckoning "rights"
  C_Tongues : Addr
  c_Tongues : mg "Tongues" = some (.ref C_Tongues)
  cl_Tongues : Cls K C_Tongues
  ty_Tongues : OwnTy K C_Tongues
  na_Tongues_signs : NoAttr K C_Tongues "signs"
  na_Tongues_none : NoAttr K C_Tongues "none"
  na_Tongues_one : NoAttr K C_Tongues "one"
  C_Web : Addr
  c_Web : mg "Web" = some (.ref C_Web)
  cl_Web : Cls K C_Web
  ty_Web : OwnTy K C_Web
  na_Web_reckoning : NoAttr K C_Web "reckoning"
  na_Web_places : NoAttr K C_Web "places"
  na_Web_kept : NoAttr K C_Web "kept"
  na_Web_roads : NoAttr K C_Web "roads"
  ki_Ratio : PySem.W.mroIn K C_Ratio (.type "int") = some false
  kb_Ratio : PySem.W.mroIn K C_Ratio (.type "bool") = some false
  ic_Ratio : PySem.W.isClsIn K C_Ratio = true
  tc_Ratio : PySem.W.typeIn K (.ref C_Ratio) = some (.type "type")
  s_Ratio_Numbers : PySem.W.subIn K (.ref C_Ratio) (.ref C_Numbers) = some false
  sl_Ratio : PySem.W.subIn K (.ref C_Ratio) (.ref C_Ratio) = some true
  ne_Ratio : PySem.W.findIn K (.ref C_Ratio) "__ne__" = some (some (.builtin "object.__ne__"))
  first_Ratio : PySem.W.selfFirst K C_Ratio = true
  ki_Numbers : PySem.W.mroIn K C_Numbers (.type "int") = some false
  kb_Numbers : PySem.W.mroIn K C_Numbers (.type "bool") = some false
  ic_Numbers : PySem.W.isClsIn K C_Numbers = true
  tc_Numbers : PySem.W.typeIn K (.ref C_Numbers) = some (.type "type")
  s_Numbers_Ratio : PySem.W.subIn K (.ref C_Numbers) (.ref C_Ratio) = some false
  s_Numbers_Reckoning : PySem.W.subIn K (.ref C_Numbers) (.ref C_Reckoning) = some false
  s_Numbers_Lengths : PySem.W.subIn K (.ref C_Numbers) (.ref C_Lengths) = some false
  s_Numbers_Tongues : PySem.W.subIn K (.ref C_Numbers) (.ref C_Tongues) = some false
  sl_Numbers : PySem.W.subIn K (.ref C_Numbers) (.ref C_Numbers) = some true
  ne_Numbers : PySem.W.findIn K (.ref C_Numbers) "__ne__" = some (some (.builtin "object.__ne__"))
  kn_Numbers : PySem.W.mroIn K C_Numbers (.type "NoneType") = some false
  ks_Numbers : PySem.W.mroIn K C_Numbers (.type "str") = some false
  kl_Numbers : PySem.W.mroIn K C_Numbers (.type "list") = some false
  ki_Lengths : PySem.W.mroIn K C_Lengths (.type "int") = some false
  kb_Lengths : PySem.W.mroIn K C_Lengths (.type "bool") = some false
  ic_Lengths : PySem.W.isClsIn K C_Lengths = true
  tc_Lengths : PySem.W.typeIn K (.ref C_Lengths) = some (.type "type")
  s_Lengths_Ratio : PySem.W.subIn K (.ref C_Lengths) (.ref C_Ratio) = some false
  s_Lengths_Numbers : PySem.W.subIn K (.ref C_Lengths) (.ref C_Numbers) = some false
  s_Lengths_Reckoning : PySem.W.subIn K (.ref C_Lengths) (.ref C_Reckoning) = some false
  s_Lengths_Tongues : PySem.W.subIn K (.ref C_Lengths) (.ref C_Tongues) = some false
  sl_Lengths : PySem.W.subIn K (.ref C_Lengths) (.ref C_Lengths) = some true
  ne_Lengths : PySem.W.findIn K (.ref C_Lengths) "__ne__" = some (some (.builtin "object.__ne__"))
  ki_Reckoning : PySem.W.mroIn K C_Reckoning (.type "int") = some false
  kb_Reckoning : PySem.W.mroIn K C_Reckoning (.type "bool") = some false
  ic_Reckoning : PySem.W.isClsIn K C_Reckoning = true
  tc_Reckoning : PySem.W.typeIn K (.ref C_Reckoning) = some (.type "type")
  s_Reckoning_Ratio : PySem.W.subIn K (.ref C_Reckoning) (.ref C_Ratio) = some false
  s_Reckoning_Numbers : PySem.W.subIn K (.ref C_Reckoning) (.ref C_Numbers) = some false
  s_Reckoning_Lengths : PySem.W.subIn K (.ref C_Reckoning) (.ref C_Lengths) = some false
  s_Reckoning_Tongues : PySem.W.subIn K (.ref C_Reckoning) (.ref C_Tongues) = some false
  sl_Reckoning : PySem.W.subIn K (.ref C_Reckoning) (.ref C_Reckoning) = some true
  ne_Reckoning : PySem.W.findIn K (.ref C_Reckoning) "__ne__" = some (some (.builtin "object.__ne__"))
  ki_Tongues : PySem.W.mroIn K C_Tongues (.type "int") = some false
  kb_Tongues : PySem.W.mroIn K C_Tongues (.type "bool") = some false
  ic_Tongues : PySem.W.isClsIn K C_Tongues = true
  tc_Tongues : PySem.W.typeIn K (.ref C_Tongues) = some (.type "type")
  sl_Tongues : PySem.W.subIn K (.ref C_Tongues) (.ref C_Tongues) = some true
  f_WayError_init : Addr
  fd_WayError_init : FuncData
  D_WayError_init : FunD K "__init__" "WayError.__init__" (defArgs s_WayError_init) (defBody s_WayError_init) (defScope s_WayError_init) [.non] [] f_WayError_init fd_WayError_init
  b_WayError_init : Binds K fd_WayError_init ["self", "value"] []
  tI_WayError_init : PySem.W.typeIn K (.ref f_WayError_init) = some (.type "function")
  f_is_integer : Addr
  fd_is_integer : FuncData
  F_is_integer : Fun K "is_integer" "is_integer" s_is_integer f_is_integer fd_is_integer
  g_is_integer : mg "is_integer" = some (.ref f_is_integer)
  b_is_integer : Binds K fd_is_integer ["value"] []
  f_common : Addr
  fd_common : FuncData
  F_common : Fun K "common" "common" s_common f_common fd_common
  g_common : mg "common" = some (.ref f_common)
  b_common : Binds K fd_common ["one", "other"] []
  f_Ratio_init : Addr
  fd_Ratio_init : FuncData
  D_Ratio_init : FunD K "__init__" "Ratio.__init__" (defArgs s_Ratio_init) (defBody s_Ratio_init) (defScope s_Ratio_init) [.int 1] [] f_Ratio_init fd_Ratio_init
  b_Ratio_init : Binds K fd_Ratio_init ["self", "top", "bottom"] []
  ds_Ratio_init : List Value
  rd_Ratio_init : Vals [.int 1] ds_Ratio_init
  b1_Ratio_init : Binds K fd_Ratio_init ["self", "top", "bottom"] ds_Ratio_init
  M_Ratio : Mk K C_Ratio f_Ratio_init
  f_is_number : Addr
  fd_is_number : FuncData
  F_is_number : Fun K "is_number" "is_number" s_is_number f_is_number fd_is_number
  g_is_number : mg "is_number" = some (.ref f_is_number)
  b_is_number : Binds K fd_is_number ["value"] []
  f_Numbers_init : Addr
  fd_Numbers_init : FuncData
  F_Numbers_init : Fun K "__init__" "Numbers.__init__" s_Numbers_init f_Numbers_init fd_Numbers_init
  M_Numbers : Mk K C_Numbers f_Numbers_init
  b_Numbers_init : Binds K fd_Numbers_init ["self"] []
  f_Numbers_eq : Addr
  fd_Numbers_eq : FuncData
  F_Numbers_eq : Fun K "__eq__" "Numbers.__eq__" s_Numbers_eq f_Numbers_eq fd_Numbers_eq
  h_Numbers_eq : Meth K C_Numbers "__eq__" f_Numbers_eq
  b_Numbers_eq : Binds K fd_Numbers_eq ["self", "other"] []
  f_Numbers_is_worth : Addr
  fd_Numbers_is_worth : FuncData
  F_Numbers_is_worth : Fun K "is_worth" "Numbers.is_worth" s_Numbers_is_worth f_Numbers_is_worth fd_Numbers_is_worth
  h_Numbers_is_worth : Meth K C_Numbers "is_worth" f_Numbers_is_worth
  b_Numbers_is_worth : Binds K fd_Numbers_is_worth ["self", "thing"] []
  f_Lengths_init : Addr
  fd_Lengths_init : FuncData
  F_Lengths_init : Fun K "__init__" "Lengths.__init__" s_Lengths_init f_Lengths_init fd_Lengths_init
  M_Lengths : Mk K C_Lengths f_Lengths_init
  b_Lengths_init : Binds K fd_Lengths_init ["self"] []
  f_Lengths_eq : Addr
  fd_Lengths_eq : FuncData
  F_Lengths_eq : Fun K "__eq__" "Lengths.__eq__" s_Lengths_eq f_Lengths_eq fd_Lengths_eq
  h_Lengths_eq : Meth K C_Lengths "__eq__" f_Lengths_eq
  b_Lengths_eq : Binds K fd_Lengths_eq ["self", "other"] []
  f_Lengths_is_worth : Addr
  fd_Lengths_is_worth : FuncData
  F_Lengths_is_worth : Fun K "is_worth" "Lengths.is_worth" s_Lengths_is_worth f_Lengths_is_worth fd_Lengths_is_worth
  h_Lengths_is_worth : Meth K C_Lengths "is_worth" f_Lengths_is_worth
  b_Lengths_is_worth : Binds K fd_Lengths_is_worth ["self", "thing"] []
  f_is_square : Addr
  fd_is_square : FuncData
  F_is_square : Fun K "is_square" "is_square" s_is_square f_is_square fd_is_square
  g_is_square : mg "is_square" = some (.ref f_is_square)
  b_is_square : Binds K fd_is_square ["rows", "size"] []
  f_check_size : Addr
  fd_check_size : FuncData
  F_check_size : Fun K "check_size" "check_size" s_check_size f_check_size fd_check_size
  g_check_size : mg "check_size" = some (.ref f_check_size)
  b_check_size : Binds K fd_check_size ["joins", "products", "none", "one"] []
  f_check_singles : Addr
  fd_check_singles : FuncData
  F_check_singles : Fun K "check_singles" "check_singles" s_check_singles f_check_singles fd_check_singles
  g_check_singles : mg "check_singles" = some (.ref f_check_singles)
  b_check_singles : Binds K fd_check_singles ["joins", "products", "none", "one"] []
  f_check_swaps : Addr
  fd_check_swaps : FuncData
  F_check_swaps : Fun K "check_swaps" "check_swaps" s_check_swaps f_check_swaps fd_check_swaps
  g_check_swaps : mg "check_swaps" = some (.ref f_check_swaps)
  b_check_swaps : Binds K fd_check_swaps ["joins"] []
  f_check_grouping : Addr
  fd_check_grouping : FuncData
  F_check_grouping : Fun K "check_grouping" "check_grouping" s_check_grouping f_check_grouping fd_check_grouping
  g_check_grouping : mg "check_grouping" = some (.ref f_check_grouping)
  b_check_grouping : Binds K fd_check_grouping ["word", "rows"] []
  f_check_over : Addr
  fd_check_over : FuncData
  F_check_over : Fun K "check_over" "check_over" s_check_over f_check_over fd_check_over
  g_check_over : mg "check_over" = some (.ref f_check_over)
  b_check_over : Binds K fd_check_over ["joins", "products"] []
  f_Reckoning_joined : Addr
  fd_Reckoning_joined : FuncData
  F_Reckoning_joined : Fun K "joined" "Reckoning.joined" s_Reckoning_joined f_Reckoning_joined fd_Reckoning_joined
  h_Reckoning_joined : Meth K C_Reckoning "joined" f_Reckoning_joined
  b_Reckoning_joined : Binds K fd_Reckoning_joined ["self", "worths"] []
  f_Reckoning_met : Addr
  fd_Reckoning_met : FuncData
  F_Reckoning_met : Fun K "met" "Reckoning.met" s_Reckoning_met f_Reckoning_met fd_Reckoning_met
  h_Reckoning_met : Meth K C_Reckoning "met" f_Reckoning_met
  b_Reckoning_met : Binds K fd_Reckoning_met ["self", "a", "b"] []
  f_Reckoning_init : Addr
  fd_Reckoning_init : FuncData
  F_Reckoning_init : Fun K "__init__" "Reckoning.__init__" s_Reckoning_init f_Reckoning_init fd_Reckoning_init
  M_Reckoning : Mk K C_Reckoning f_Reckoning_init
  b_Reckoning_init : Binds K fd_Reckoning_init ["self", "joins", "products", "none", "one"] []
  f_Reckoning_eq : Addr
  fd_Reckoning_eq : FuncData
  F_Reckoning_eq : Fun K "__eq__" "Reckoning.__eq__" s_Reckoning_eq f_Reckoning_eq fd_Reckoning_eq
  h_Reckoning_eq : Meth K C_Reckoning "__eq__" f_Reckoning_eq
  b_Reckoning_eq : Binds K fd_Reckoning_eq ["self", "other"] []
  f_Reckoning_is_worth : Addr
  fd_Reckoning_is_worth : FuncData
  F_Reckoning_is_worth : Fun K "is_worth" "Reckoning.is_worth" s_Reckoning_is_worth f_Reckoning_is_worth fd_Reckoning_is_worth
  h_Reckoning_is_worth : Meth K C_Reckoning "is_worth" f_Reckoning_is_worth
  b_Reckoning_is_worth : Binds K fd_Reckoning_is_worth ["self", "thing"] []
  f_Reckoning_check : Addr
  fd_Reckoning_check : FuncData
  F_Reckoning_check : Fun K "check" "Reckoning.check" s_Reckoning_check f_Reckoning_check fd_Reckoning_check
  h_Reckoning_check : Meth K C_Reckoning "check" f_Reckoning_check
  b_Reckoning_check : Binds K fd_Reckoning_check ["self", "worths"] []
  f_Reckoning_join : Addr
  fd_Reckoning_join : FuncData
  F_Reckoning_join : Fun K "join" "Reckoning.join" s_Reckoning_join f_Reckoning_join fd_Reckoning_join
  h_Reckoning_join : Meth K C_Reckoning "join" f_Reckoning_join
  b_Reckoning_join : Binds K fd_Reckoning_join ["self", "a", "b"] []
  f_Reckoning_times : Addr
  fd_Reckoning_times : FuncData
  F_Reckoning_times : Fun K "times" "Reckoning.times" s_Reckoning_times f_Reckoning_times fd_Reckoning_times
  h_Reckoning_times : Meth K C_Reckoning "times" f_Reckoning_times
  b_Reckoning_times : Binds K fd_Reckoning_times ["self", "a", "b"] []
  f_Lengths_check : Addr
  fd_Lengths_check : FuncData
  F_Lengths_check : Fun K "check" "Lengths.check" s_Lengths_check f_Lengths_check fd_Lengths_check
  h_Lengths_check : Meth K C_Lengths "check" f_Lengths_check
  b_Lengths_check : Binds K fd_Lengths_check ["self", "worths"] []
  f_Lengths_join : Addr
  fd_Lengths_join : FuncData
  F_Lengths_join : Fun K "join" "Lengths.join" s_Lengths_join f_Lengths_join fd_Lengths_join
  h_Lengths_join : Meth K C_Lengths "join" f_Lengths_join
  b_Lengths_join : Binds K fd_Lengths_join ["self", "a", "b"] []
  f_Lengths_times : Addr
  fd_Lengths_times : FuncData
  F_Lengths_times : Fun K "times" "Lengths.times" s_Lengths_times f_Lengths_times fd_Lengths_times
  h_Lengths_times : Meth K C_Lengths "times" f_Lengths_times
  b_Lengths_times : Binds K fd_Lengths_times ["self", "a", "b"] []
  f_as_ratio : Addr
  fd_as_ratio : FuncData
  F_as_ratio : Fun K "as_ratio" "as_ratio" s_as_ratio f_as_ratio fd_as_ratio
  g_as_ratio : mg "as_ratio" = some (.ref f_as_ratio)
  b_as_ratio : Binds K fd_as_ratio ["value"] []
  f_Ratio_add : Addr
  fd_Ratio_add : FuncData
  F_Ratio_add : Fun K "__add__" "Ratio.__add__" s_Ratio_add f_Ratio_add fd_Ratio_add
  h_Ratio_add : Meth K C_Ratio "__add__" f_Ratio_add
  b_Ratio_add : Binds K fd_Ratio_add ["self", "other"] []
  f_Ratio_radd : Addr
  fd_Ratio_radd : FuncData
  F_Ratio_radd : Fun K "__radd__" "Ratio.__radd__" s_Ratio_radd f_Ratio_radd fd_Ratio_radd
  h_Ratio_radd : Meth K C_Ratio "__radd__" f_Ratio_radd
  b_Ratio_radd : Binds K fd_Ratio_radd ["self", "other"] []
  f_Ratio_mul : Addr
  fd_Ratio_mul : FuncData
  F_Ratio_mul : Fun K "__mul__" "Ratio.__mul__" s_Ratio_mul f_Ratio_mul fd_Ratio_mul
  h_Ratio_mul : Meth K C_Ratio "__mul__" f_Ratio_mul
  b_Ratio_mul : Binds K fd_Ratio_mul ["self", "other"] []
  f_Ratio_rmul : Addr
  fd_Ratio_rmul : FuncData
  F_Ratio_rmul : Fun K "__rmul__" "Ratio.__rmul__" s_Ratio_rmul f_Ratio_rmul fd_Ratio_rmul
  h_Ratio_rmul : Meth K C_Ratio "__rmul__" f_Ratio_rmul
  b_Ratio_rmul : Binds K fd_Ratio_rmul ["self", "other"] []
  f_Ratio_eq : Addr
  fd_Ratio_eq : FuncData
  F_Ratio_eq : Fun K "__eq__" "Ratio.__eq__" s_Ratio_eq f_Ratio_eq fd_Ratio_eq
  h_Ratio_eq : Meth K C_Ratio "__eq__" f_Ratio_eq
  b_Ratio_eq : Binds K fd_Ratio_eq ["self", "other"] []
  f_Numbers_check : Addr
  fd_Numbers_check : FuncData
  F_Numbers_check : Fun K "check" "Numbers.check" s_Numbers_check f_Numbers_check fd_Numbers_check
  h_Numbers_check : Meth K C_Numbers "check" f_Numbers_check
  b_Numbers_check : Binds K fd_Numbers_check ["self", "worths"] []
  f_Numbers_join : Addr
  fd_Numbers_join : FuncData
  F_Numbers_join : Fun K "join" "Numbers.join" s_Numbers_join f_Numbers_join fd_Numbers_join
  h_Numbers_join : Meth K C_Numbers "join" f_Numbers_join
  b_Numbers_join : Binds K fd_Numbers_join ["self", "a", "b"] []
  f_Numbers_times : Addr
  fd_Numbers_times : FuncData
  F_Numbers_times : Fun K "times" "Numbers.times" s_Numbers_times f_Numbers_times fd_Numbers_times
  h_Numbers_times : Meth K C_Numbers "times" f_Numbers_times
  b_Numbers_times : Binds K fd_Numbers_times ["self", "a", "b"] []
  f_is_letters : Addr
  fd_is_letters : FuncData
  F_is_letters : Fun K "is_letters" "is_letters" s_is_letters f_is_letters fd_is_letters
  g_is_letters : mg "is_letters" = some (.ref f_is_letters)
  b_is_letters : Binds K fd_is_letters ["value"] []
  f_is_letter : Addr
  fd_is_letter : FuncData
  F_is_letter : Fun K "is_letter" "is_letter" s_is_letter f_is_letter fd_is_letter
  g_is_letter : mg "is_letter" = some (.ref f_is_letter)
  b_is_letter : Binds K fd_is_letter ["value"] []
  f_is_name : Addr
  fd_is_name : FuncData
  F_is_name : Fun K "is_name" "is_name" s_is_name f_is_name fd_is_name
  g_is_name : mg "is_name" = some (.ref f_is_name)
  b_is_name : Binds K fd_is_name ["value"] []
  f_check_reckoning : Addr
  fd_check_reckoning : FuncData
  F_check_reckoning : Fun K "check_reckoning" "check_reckoning" s_check_reckoning f_check_reckoning fd_check_reckoning
  g_check_reckoning : mg "check_reckoning" = some (.ref f_check_reckoning)
  b_check_reckoning : Binds K fd_check_reckoning ["thing"] []
  f_plain_worth : Addr
  fd_plain_worth : FuncData
  F_plain_worth : Fun K "plain_worth" "plain_worth" s_plain_worth f_plain_worth fd_plain_worth
  g_plain_worth : mg "plain_worth" = some (.ref f_plain_worth)
  b_plain_worth : Binds K fd_plain_worth ["reckoning", "worth"] []
  f_checked_places : Addr
  fd_checked_places : FuncData
  F_checked_places : Fun K "checked_places" "checked_places" s_checked_places f_checked_places fd_checked_places
  g_checked_places : mg "checked_places" = some (.ref f_checked_places)
  b_checked_places : Binds K fd_checked_places ["places"] []
  f_is_road : Addr
  fd_is_road : FuncData
  F_is_road : Fun K "is_road" "is_road" s_is_road f_is_road fd_is_road
  g_is_road : mg "is_road" = some (.ref f_is_road)
  b_is_road : Binds K fd_is_road ["reckoning", "places", "road"] []
  f_checked_roads : Addr
  fd_checked_roads : FuncData
  F_checked_roads : Fun K "checked_roads" "checked_roads" s_checked_roads f_checked_roads fd_checked_roads
  g_checked_roads : mg "checked_roads" = some (.ref f_checked_roads)
  b_checked_roads : Binds K fd_checked_roads ["reckoning", "places", "roads"] []
  f_Web_init : Addr
  fd_Web_init : FuncData
  F_Web_init : Fun K "__init__" "Web.__init__" s_Web_init f_Web_init fd_Web_init
  M_Web : Mk K C_Web f_Web_init
  b_Web_init : Binds K fd_Web_init ["self", "reckoning", "places", "roads"] []
  f_Web_worth : Addr
  fd_Web_worth : FuncData
  F_Web_worth : Fun K "worth" "Web.worth" s_Web_worth f_Web_worth fd_Web_worth
  h_Web_worth : Meth K C_Web "worth" f_Web_worth
  b_Web_worth : Binds K fd_Web_worth ["self", "one", "letter", "other"] []
  f_l_hand : Addr
  fd_l_hand : FuncData
  F_l_hand : Fun K "_law_hand" "_law_hand" s_l_hand f_l_hand fd_l_hand
  g_l_hand : mg "_law_hand" = some (.ref f_l_hand)
  b_l_hand : Binds K fd_l_hand ["_law_script"] []
  f_l_draw : Addr
  fd_l_draw : FuncData
  F_l_draw : Fun K "_law_draw" "_law_draw" s_l_draw f_l_draw fd_l_draw
  g_l_draw : mg "_law_draw" = some (.ref f_l_draw)
  b_l_draw : Binds K fd_l_draw ["_law_hand_here", "_law_many"] []
  f_l_chain : Addr
  fd_l_chain : FuncData
  F_l_chain : Fun K "_law_chain" "_law_chain" s_l_chain f_l_chain fd_l_chain
  g_l_chain : mg "_law_chain" = some (.ref f_l_chain)
  b_l_chain : Binds K fd_l_chain ["_law_products_here"] []
  f_l_products : Addr
  fd_l_products : FuncData
  F_l_products : Fun K "_law_products" "_law_products" s_l_products f_l_products fd_l_products
  g_l_products : mg "_law_products" = some (.ref f_l_products)
  b_l_products : Binds K fd_l_products ["_law_hand_here"] []
  f_l_monoid : Addr
  fd_l_monoid : FuncData
  F_l_monoid : Fun K "_law_monoid" "_law_monoid" s_l_monoid f_l_monoid fd_l_monoid
  g_l_monoid : mg "_law_monoid" = some (.ref f_l_monoid)
  b_l_monoid : Binds K fd_l_monoid ["_law_hand_here"] []
  f_l_lot : Addr
  fd_l_lot : FuncData
  F_l_lot : Fun K "_law_lot" "_law_lot" s_l_lot f_l_lot fd_l_lot
  g_l_lot : mg "_law_lot" = some (.ref f_l_lot)
  b_l_lot : Binds K fd_l_lot ["_law_products_here", "_law_one_here", "_law_other"] []
  f_l_lots : Addr
  fd_l_lots : FuncData
  F_l_lots : Fun K "_law_lots" "_law_lots" s_l_lots f_l_lots fd_l_lots
  g_l_lots : mg "_law_lots" = some (.ref f_l_lots)
  b_l_lots : Binds K fd_l_lots ["_law_products_here", "_law_one_here"] []
  f_l_paired : Addr
  fd_l_paired : FuncData
  F_l_paired : Fun K "_law_paired" "_law_paired" s_l_paired f_l_paired fd_l_paired
  g_l_paired : mg "_law_paired" = some (.ref f_l_paired)
  b_l_paired : Binds K fd_l_paired ["_law_one_here", "_law_other"] []
  f_l_beside : Addr
  fd_l_beside : FuncData
  F_l_beside : Fun K "_law_beside" "_law_beside" s_l_beside f_l_beside fd_l_beside
  g_l_beside : mg "_law_beside" = some (.ref f_l_beside)
  b_l_beside : Binds K fd_l_beside ["_law_one_here", "_law_other"] []
  f_l_turned : Addr
  fd_l_turned : FuncData
  F_l_turned : Fun K "_law_turned" "_law_turned" s_l_turned f_l_turned fd_l_turned
  g_l_turned : mg "_law_turned" = some (.ref f_l_turned)
  b_l_turned : Binds K fd_l_turned ["_law_told"] []
  f_l_order : Addr
  fd_l_order : FuncData
  F_l_order : Fun K "_law_order" "_law_order" s_l_order f_l_order fd_l_order
  g_l_order : mg "_law_order" = some (.ref f_l_order)
  b_l_order : Binds K fd_l_order ["_law_hand_here", "_law_many"] []
  f_l_renamed : Addr
  fd_l_renamed : FuncData
  F_l_renamed : Fun K "_law_renamed" "_law_renamed" s_l_renamed f_l_renamed fd_l_renamed
  g_l_renamed : mg "_law_renamed" = some (.ref f_l_renamed)
  b_l_renamed : Binds K fd_l_renamed ["_law_told", "_law_order_here"] []
  f_l_made : Addr
  fd_l_made : FuncData
  F_l_made : Fun K "_law_made" "_law_made" s_l_made f_l_made fd_l_made
  g_l_made : mg "_law_made" = some (.ref f_l_made)
  b_l_made : Binds K fd_l_made ["_law_hand_here"] []
  f_l_names : Addr
  fd_l_names : FuncData
  F_l_names : Fun K "_law_names" "_law_names" s_l_names f_l_names fd_l_names
  g_l_names : mg "_law_names" = some (.ref f_l_names)
  b_l_names : Binds K fd_l_names ["_law_hand_here", "_law_many"] []
  f_l_reckoning : Addr
  fd_l_reckoning : FuncData
  F_l_reckoning : Fun K "_law_reckoning" "_law_reckoning" s_l_reckoning f_l_reckoning fd_l_reckoning
  g_l_reckoning : mg "_law_reckoning" = some (.ref f_l_reckoning)
  b_l_reckoning : Binds K fd_l_reckoning ["_law_world_here"] []
  f_l_none : Addr
  fd_l_none : FuncData
  F_l_none : Fun K "_law_none" "_law_none" s_l_none f_l_none fd_l_none
  g_l_none : mg "_law_none" = some (.ref f_l_none)
  b_l_none : Binds K fd_l_none ["_law_world_here"] []
  f_l_handed : Addr
  fd_l_handed : FuncData
  F_l_handed : Fun K "_law_handed" "_law_handed" s_l_handed f_l_handed fd_l_handed
  g_l_handed : mg "_law_handed" = some (.ref f_l_handed)
  b_l_handed : Binds K fd_l_handed ["_law_world_here", "_law_worth_here"] []
  f_l_world : Addr
  fd_l_world : FuncData
  F_l_world : Fun K "_law_world" "_law_world" s_l_world f_l_world fd_l_world
  g_l_world : mg "_law_world" = some (.ref f_l_world)
  b_l_world : Binds K fd_l_world ["_law_hand_here"] []
  f_l_worth : Addr
  fd_l_worth : FuncData
  F_l_worth : Fun K "_law_worth" "_law_worth" s_l_worth f_l_worth fd_l_worth
  g_l_worth : mg "_law_worth" = some (.ref f_l_worth)
  b_l_worth : Binds K fd_l_worth ["_law_hand_here", "_law_world_here"] []
  f_l_roads : Addr
  fd_l_roads : FuncData
  F_l_roads : Fun K "_law_roads" "_law_roads" s_l_roads f_l_roads fd_l_roads
  g_l_roads : mg "_law_roads" = some (.ref f_l_roads)
  b_l_roads : Binds K fd_l_roads ["_law_hand_here", "_law_world_here", "_law_many", "_law_letters"] []
  f_l_web : Addr
  fd_l_web : FuncData
  F_l_web : Fun K "_law_web" "_law_web" s_l_web f_l_web fd_l_web
  g_l_web : mg "_law_web" = some (.ref f_l_web)
  b_l_web : Binds K fd_l_web ["_law_world_here", "_law_names_here", "_law_roads_here"] []
  f_l_is_worth : Addr
  fd_l_is_worth : FuncData
  F_l_is_worth : Fun K "_law_is_worth" "_law_is_worth" s_l_is_worth f_l_is_worth fd_l_is_worth
  g_l_is_worth : mg "_law_is_worth" = some (.ref f_l_is_worth)
  b_l_is_worth : Binds K fd_l_is_worth ["_law_world_here", "_law_told", "_law_due"] []
  f_l_place : Addr
  fd_l_place : FuncData
  F_l_place : Fun K "_law_place" "_law_place" s_l_place f_l_place fd_l_place
  g_l_place : mg "_law_place" = some (.ref f_l_place)
  b_l_place : Binds K fd_l_place ["_law_hand_here", "_law_names_here"] []
  f_l_letter : Addr
  fd_l_letter : FuncData
  F_l_letter : Fun K "_law_letter" "_law_letter" s_l_letter f_l_letter fd_l_letter
  g_l_letter : mg "_law_letter" = some (.ref f_l_letter)
  b_l_letter : Binds K fd_l_letter ["_law_hand_here"] []
  f_l_asked : Addr
  fd_l_asked : FuncData
  F_l_asked : Fun K "_law_asked" "_law_asked" s_l_asked f_l_asked fd_l_asked
  g_l_asked : mg "_law_asked" = some (.ref f_l_asked)
  b_l_asked : Binds K fd_l_asked ["_law_web_here", "_law_one_here", "_law_letter_here", "_law_other"] []
  f_l_is_place : Addr
  fd_l_is_place : FuncData
  F_l_is_place : Fun K "_law_is_place" "_law_is_place" s_l_is_place f_l_is_place fd_l_is_place
  g_l_is_place : mg "_law_is_place" = some (.ref f_l_is_place)
  b_l_is_place : Binds K fd_l_is_place ["_law_thing", "_law_names_here"] []
  f_l_right : Addr
  fd_l_right : FuncData
  F_l_right : Fun K "_law_right" "_law_right" s_l_right f_l_right fd_l_right
  g_l_right : mg "_law_right" = some (.ref f_l_right)
  b_l_right : Binds K fd_l_right ["_law_world_here", "_law_names_here", "_law_roads_here", "_law_one_here", "_law_letter_here", "_law_other", "_law_told"] []
  f_law : Addr
  fd_law : FuncData
  F_law : Fun K "law" "law" s_law f_law fd_law
  g_law : mg "law" = some (.ref f_law)
  b_law : Binds K fd_law ["_law_script"] []
  C_BadNumber : Addr
  c_BadNumber : mg "BadNumber" = some (.ref C_BadNumber)
  X_BadNumber : Rx.ExcF K f_WayError_init C_BadNumber
  C_BadReckoning : Addr
  c_BadReckoning : mg "BadReckoning" = some (.ref C_BadReckoning)
  X_BadReckoning : Rx.ExcF K f_WayError_init C_BadReckoning
  C_BadWorth : Addr
  c_BadWorth : mg "BadWorth" = some (.ref C_BadWorth)
  X_BadWorth : Rx.ExcF K f_WayError_init C_BadWorth
  C_BadWeb : Addr
  c_BadWeb : mg "BadWeb" = some (.ref C_BadWeb)
  X_BadWeb : Rx.ExcF K f_WayError_init C_BadWeb
  C_BadName : Addr
  c_BadName : mg "BadName" = some (.ref C_BadName)
  X_BadName : Rx.ExcF K f_WayError_init C_BadName
  C_BadLetter : Addr
  c_BadLetter : mg "BadLetter" = some (.ref C_BadLetter)
  X_BadLetter : Rx.ExcF K f_WayError_init C_BadLetter
  C_WayError : Addr
  c_WayError : mg "WayError" = some (.ref C_WayError)
  X_WayError : Rx.ExcF K f_WayError_init C_WayError
  s_BadNumber_WayError : PySem.W.subIn K (.ref C_BadNumber) (.ref C_WayError) = some true
  s_BadNumber_BadName : PySem.W.subIn K (.ref C_BadNumber) (.ref C_BadName) = some false
  s_BadNumber_BadLetter : PySem.W.subIn K (.ref C_BadNumber) (.ref C_BadLetter) = some false
  s_BadReckoning_WayError : PySem.W.subIn K (.ref C_BadReckoning) (.ref C_WayError) = some true
  s_BadReckoning_BadName : PySem.W.subIn K (.ref C_BadReckoning) (.ref C_BadName) = some false
  s_BadReckoning_BadLetter : PySem.W.subIn K (.ref C_BadReckoning) (.ref C_BadLetter) = some false
  s_BadWorth_WayError : PySem.W.subIn K (.ref C_BadWorth) (.ref C_WayError) = some true
  s_BadWorth_BadName : PySem.W.subIn K (.ref C_BadWorth) (.ref C_BadName) = some false
  s_BadWorth_BadLetter : PySem.W.subIn K (.ref C_BadWorth) (.ref C_BadLetter) = some false
  s_BadWeb_WayError : PySem.W.subIn K (.ref C_BadWeb) (.ref C_WayError) = some true
  s_BadWeb_BadName : PySem.W.subIn K (.ref C_BadWeb) (.ref C_BadName) = some false
  s_BadWeb_BadLetter : PySem.W.subIn K (.ref C_BadWeb) (.ref C_BadLetter) = some false
  s_BadName_WayError : PySem.W.subIn K (.ref C_BadName) (.ref C_WayError) = some true
  s_BadName_BadName : PySem.W.subIn K (.ref C_BadName) (.ref C_BadName) = some true
  s_BadName_BadLetter : PySem.W.subIn K (.ref C_BadName) (.ref C_BadLetter) = some false
  s_BadLetter_WayError : PySem.W.subIn K (.ref C_BadLetter) (.ref C_WayError) = some true
  s_BadLetter_BadName : PySem.W.subIn K (.ref C_BadLetter) (.ref C_BadName) = some false
  s_BadLetter_BadLetter : PySem.W.subIn K (.ref C_BadLetter) (.ref C_BadLetter) = some true
  n_isinstance : mg "isinstance" = none
  n_int : mg "int" = none
  n_bool : mg "bool" = none
  n_abs : mg "abs" = none
  n_len : mg "len" = none
  n_all : mg "all" = none
  n_list : mg "list" = none
  n_tuple : mg "tuple" = none
  n_range : mg "range" = none
  n_min : mg "min" = none
  n_NotImplemented : mg "NotImplemented" = none
  n_str : mg "str" = none
  n_enumerate : mg "enumerate" = none
  n_max : mg "max" = none
  t_LEAST_SIZE : Tok
  m_LEAST_SIZE : mg "LEAST_SIZE" = some (.int 2 t_LEAST_SIZE)
  t_MOST_SIZE : Tok
  m_MOST_SIZE : mg "MOST_SIZE" = some (.int 16 t_MOST_SIZE)
  t_LETTERS : Tok
  m_LETTERS : mg "LETTERS" = some (.str "abcdefghijklmnopqrstuvwxyz" t_LETTERS)
  t_MOST_NAME : Tok
  m_MOST_NAME : mg "MOST_NAME" = some (.int 8 t_MOST_NAME)
  t_MOST_PLACES : Tok
  m_MOST_PLACES : mg "MOST_PLACES" = some (.int 10 t_MOST_PLACES)
  t_MOST_ROADS : Tok
  m_MOST_ROADS : mg "MOST_ROADS" = some (.int 80 t_MOST_ROADS)
end W

namespace W
open PySem PySem.Spec PyProof.Rows L2
def hk_d1 : He.DefD := ⟨("BadNumber", some "__init__"), "__init__", "WayError.__init__", defArgs s_WayError_init, defBody s_WayError_init, defScope s_WayError_init, [.non], []⟩
def hk_d2 : He.DefD := ⟨("is_integer", none), "is_integer", "is_integer", defArgs s_is_integer, defBody s_is_integer, defScope s_is_integer, [], []⟩
def hk_d3 : He.DefD := ⟨("common", none), "common", "common", defArgs s_common, defBody s_common, defScope s_common, [], []⟩
def hk_d4 : He.DefD := ⟨("Ratio", some "__init__"), "__init__", "Ratio.__init__", defArgs s_Ratio_init, defBody s_Ratio_init, defScope s_Ratio_init, [.int 1], []⟩
def hk_d5 : He.DefD := ⟨("is_number", none), "is_number", "is_number", defArgs s_is_number, defBody s_is_number, defScope s_is_number, [], []⟩
def hk_d6 : He.DefD := ⟨("Numbers", some "__init__"), "__init__", "Numbers.__init__", defArgs s_Numbers_init, defBody s_Numbers_init, defScope s_Numbers_init, [], []⟩
def hk_d7 : He.DefD := ⟨("Numbers", some "__eq__"), "__eq__", "Numbers.__eq__", defArgs s_Numbers_eq, defBody s_Numbers_eq, defScope s_Numbers_eq, [], []⟩
def hk_d8 : He.DefD := ⟨("Numbers", some "is_worth"), "is_worth", "Numbers.is_worth", defArgs s_Numbers_is_worth, defBody s_Numbers_is_worth, defScope s_Numbers_is_worth, [], []⟩
def hk_d9 : He.DefD := ⟨("Lengths", some "__init__"), "__init__", "Lengths.__init__", defArgs s_Lengths_init, defBody s_Lengths_init, defScope s_Lengths_init, [], []⟩
def hk_d10 : He.DefD := ⟨("Lengths", some "__eq__"), "__eq__", "Lengths.__eq__", defArgs s_Lengths_eq, defBody s_Lengths_eq, defScope s_Lengths_eq, [], []⟩
def hk_d11 : He.DefD := ⟨("Lengths", some "is_worth"), "is_worth", "Lengths.is_worth", defArgs s_Lengths_is_worth, defBody s_Lengths_is_worth, defScope s_Lengths_is_worth, [], []⟩
def hk_d12 : He.DefD := ⟨("is_square", none), "is_square", "is_square", defArgs s_is_square, defBody s_is_square, defScope s_is_square, [], []⟩
def hk_d13 : He.DefD := ⟨("check_size", none), "check_size", "check_size", defArgs s_check_size, defBody s_check_size, defScope s_check_size, [], []⟩
def hk_d14 : He.DefD := ⟨("check_singles", none), "check_singles", "check_singles", defArgs s_check_singles, defBody s_check_singles, defScope s_check_singles, [], []⟩
def hk_d15 : He.DefD := ⟨("check_swaps", none), "check_swaps", "check_swaps", defArgs s_check_swaps, defBody s_check_swaps, defScope s_check_swaps, [], []⟩
def hk_d16 : He.DefD := ⟨("check_grouping", none), "check_grouping", "check_grouping", defArgs s_check_grouping, defBody s_check_grouping, defScope s_check_grouping, [], []⟩
def hk_d17 : He.DefD := ⟨("check_over", none), "check_over", "check_over", defArgs s_check_over, defBody s_check_over, defScope s_check_over, [], []⟩
def hk_d18 : He.DefD := ⟨("Reckoning", some "joined"), "joined", "Reckoning.joined", defArgs s_Reckoning_joined, defBody s_Reckoning_joined, defScope s_Reckoning_joined, [], []⟩
def hk_d19 : He.DefD := ⟨("Reckoning", some "met"), "met", "Reckoning.met", defArgs s_Reckoning_met, defBody s_Reckoning_met, defScope s_Reckoning_met, [], []⟩
def hk_d20 : He.DefD := ⟨("Reckoning", some "__init__"), "__init__", "Reckoning.__init__", defArgs s_Reckoning_init, defBody s_Reckoning_init, defScope s_Reckoning_init, [], []⟩
def hk_d21 : He.DefD := ⟨("Reckoning", some "__eq__"), "__eq__", "Reckoning.__eq__", defArgs s_Reckoning_eq, defBody s_Reckoning_eq, defScope s_Reckoning_eq, [], []⟩
def hk_d22 : He.DefD := ⟨("Reckoning", some "is_worth"), "is_worth", "Reckoning.is_worth", defArgs s_Reckoning_is_worth, defBody s_Reckoning_is_worth, defScope s_Reckoning_is_worth, [], []⟩
def hk_d23 : He.DefD := ⟨("Reckoning", some "check"), "check", "Reckoning.check", defArgs s_Reckoning_check, defBody s_Reckoning_check, defScope s_Reckoning_check, [], []⟩
def hk_d24 : He.DefD := ⟨("Reckoning", some "join"), "join", "Reckoning.join", defArgs s_Reckoning_join, defBody s_Reckoning_join, defScope s_Reckoning_join, [], []⟩
def hk_d25 : He.DefD := ⟨("Reckoning", some "times"), "times", "Reckoning.times", defArgs s_Reckoning_times, defBody s_Reckoning_times, defScope s_Reckoning_times, [], []⟩
def hk_d26 : He.DefD := ⟨("Lengths", some "check"), "check", "Lengths.check", defArgs s_Lengths_check, defBody s_Lengths_check, defScope s_Lengths_check, [], []⟩
def hk_d27 : He.DefD := ⟨("Lengths", some "join"), "join", "Lengths.join", defArgs s_Lengths_join, defBody s_Lengths_join, defScope s_Lengths_join, [], []⟩
def hk_d28 : He.DefD := ⟨("Lengths", some "times"), "times", "Lengths.times", defArgs s_Lengths_times, defBody s_Lengths_times, defScope s_Lengths_times, [], []⟩
def hk_d29 : He.DefD := ⟨("as_ratio", none), "as_ratio", "as_ratio", defArgs s_as_ratio, defBody s_as_ratio, defScope s_as_ratio, [], []⟩
def hk_d30 : He.DefD := ⟨("Ratio", some "__add__"), "__add__", "Ratio.__add__", defArgs s_Ratio_add, defBody s_Ratio_add, defScope s_Ratio_add, [], []⟩
def hk_d31 : He.DefD := ⟨("Ratio", some "__radd__"), "__radd__", "Ratio.__radd__", defArgs s_Ratio_radd, defBody s_Ratio_radd, defScope s_Ratio_radd, [], []⟩
def hk_d32 : He.DefD := ⟨("Ratio", some "__mul__"), "__mul__", "Ratio.__mul__", defArgs s_Ratio_mul, defBody s_Ratio_mul, defScope s_Ratio_mul, [], []⟩
def hk_d33 : He.DefD := ⟨("Ratio", some "__rmul__"), "__rmul__", "Ratio.__rmul__", defArgs s_Ratio_rmul, defBody s_Ratio_rmul, defScope s_Ratio_rmul, [], []⟩
def hk_d34 : He.DefD := ⟨("Ratio", some "__eq__"), "__eq__", "Ratio.__eq__", defArgs s_Ratio_eq, defBody s_Ratio_eq, defScope s_Ratio_eq, [], []⟩
def hk_d35 : He.DefD := ⟨("Numbers", some "check"), "check", "Numbers.check", defArgs s_Numbers_check, defBody s_Numbers_check, defScope s_Numbers_check, [], []⟩
def hk_d36 : He.DefD := ⟨("Numbers", some "join"), "join", "Numbers.join", defArgs s_Numbers_join, defBody s_Numbers_join, defScope s_Numbers_join, [], []⟩
def hk_d37 : He.DefD := ⟨("Numbers", some "times"), "times", "Numbers.times", defArgs s_Numbers_times, defBody s_Numbers_times, defScope s_Numbers_times, [], []⟩
def hk_d38 : He.DefD := ⟨("is_letters", none), "is_letters", "is_letters", defArgs s_is_letters, defBody s_is_letters, defScope s_is_letters, [], []⟩
def hk_d39 : He.DefD := ⟨("is_letter", none), "is_letter", "is_letter", defArgs s_is_letter, defBody s_is_letter, defScope s_is_letter, [], []⟩
def hk_d40 : He.DefD := ⟨("is_name", none), "is_name", "is_name", defArgs s_is_name, defBody s_is_name, defScope s_is_name, [], []⟩
def hk_d41 : He.DefD := ⟨("check_reckoning", none), "check_reckoning", "check_reckoning", defArgs s_check_reckoning, defBody s_check_reckoning, defScope s_check_reckoning, [], []⟩
def hk_d42 : He.DefD := ⟨("plain_worth", none), "plain_worth", "plain_worth", defArgs s_plain_worth, defBody s_plain_worth, defScope s_plain_worth, [], []⟩
def hk_d43 : He.DefD := ⟨("checked_places", none), "checked_places", "checked_places", defArgs s_checked_places, defBody s_checked_places, defScope s_checked_places, [], []⟩
def hk_d44 : He.DefD := ⟨("is_road", none), "is_road", "is_road", defArgs s_is_road, defBody s_is_road, defScope s_is_road, [], []⟩
def hk_d45 : He.DefD := ⟨("checked_roads", none), "checked_roads", "checked_roads", defArgs s_checked_roads, defBody s_checked_roads, defScope s_checked_roads, [], []⟩
def hk_d46 : He.DefD := ⟨("Web", some "__init__"), "__init__", "Web.__init__", defArgs s_Web_init, defBody s_Web_init, defScope s_Web_init, [], []⟩
def hk_d47 : He.DefD := ⟨("Web", some "worth"), "worth", "Web.worth", defArgs s_Web_worth, defBody s_Web_worth, defScope s_Web_worth, [], []⟩
def hk_d48 : He.DefD := ⟨("_law_hand", none), "_law_hand", "_law_hand", defArgs s_l_hand, defBody s_l_hand, defScope s_l_hand, [], []⟩
def hk_d49 : He.DefD := ⟨("_law_draw", none), "_law_draw", "_law_draw", defArgs s_l_draw, defBody s_l_draw, defScope s_l_draw, [], []⟩
def hk_d50 : He.DefD := ⟨("_law_chain", none), "_law_chain", "_law_chain", defArgs s_l_chain, defBody s_l_chain, defScope s_l_chain, [], []⟩
def hk_d51 : He.DefD := ⟨("_law_products", none), "_law_products", "_law_products", defArgs s_l_products, defBody s_l_products, defScope s_l_products, [], []⟩
def hk_d52 : He.DefD := ⟨("_law_monoid", none), "_law_monoid", "_law_monoid", defArgs s_l_monoid, defBody s_l_monoid, defScope s_l_monoid, [], []⟩
def hk_d53 : He.DefD := ⟨("_law_lot", none), "_law_lot", "_law_lot", defArgs s_l_lot, defBody s_l_lot, defScope s_l_lot, [], []⟩
def hk_d54 : He.DefD := ⟨("_law_lots", none), "_law_lots", "_law_lots", defArgs s_l_lots, defBody s_l_lots, defScope s_l_lots, [], []⟩
def hk_d55 : He.DefD := ⟨("_law_paired", none), "_law_paired", "_law_paired", defArgs s_l_paired, defBody s_l_paired, defScope s_l_paired, [], []⟩
def hk_d56 : He.DefD := ⟨("_law_beside", none), "_law_beside", "_law_beside", defArgs s_l_beside, defBody s_l_beside, defScope s_l_beside, [], []⟩
def hk_d57 : He.DefD := ⟨("_law_turned", none), "_law_turned", "_law_turned", defArgs s_l_turned, defBody s_l_turned, defScope s_l_turned, [], []⟩
def hk_d58 : He.DefD := ⟨("_law_order", none), "_law_order", "_law_order", defArgs s_l_order, defBody s_l_order, defScope s_l_order, [], []⟩
def hk_d59 : He.DefD := ⟨("_law_renamed", none), "_law_renamed", "_law_renamed", defArgs s_l_renamed, defBody s_l_renamed, defScope s_l_renamed, [], []⟩
def hk_d60 : He.DefD := ⟨("_law_made", none), "_law_made", "_law_made", defArgs s_l_made, defBody s_l_made, defScope s_l_made, [], []⟩
def hk_d61 : He.DefD := ⟨("_law_names", none), "_law_names", "_law_names", defArgs s_l_names, defBody s_l_names, defScope s_l_names, [], []⟩
def hk_d62 : He.DefD := ⟨("_law_reckoning", none), "_law_reckoning", "_law_reckoning", defArgs s_l_reckoning, defBody s_l_reckoning, defScope s_l_reckoning, [], []⟩
def hk_d63 : He.DefD := ⟨("_law_none", none), "_law_none", "_law_none", defArgs s_l_none, defBody s_l_none, defScope s_l_none, [], []⟩
def hk_d64 : He.DefD := ⟨("_law_handed", none), "_law_handed", "_law_handed", defArgs s_l_handed, defBody s_l_handed, defScope s_l_handed, [], []⟩
def hk_d65 : He.DefD := ⟨("_law_world", none), "_law_world", "_law_world", defArgs s_l_world, defBody s_l_world, defScope s_l_world, [], []⟩
def hk_d66 : He.DefD := ⟨("_law_worth", none), "_law_worth", "_law_worth", defArgs s_l_worth, defBody s_l_worth, defScope s_l_worth, [], []⟩
def hk_d67 : He.DefD := ⟨("_law_roads", none), "_law_roads", "_law_roads", defArgs s_l_roads, defBody s_l_roads, defScope s_l_roads, [], []⟩
def hk_d68 : He.DefD := ⟨("_law_web", none), "_law_web", "_law_web", defArgs s_l_web, defBody s_l_web, defScope s_l_web, [], []⟩
def hk_d69 : He.DefD := ⟨("_law_is_worth", none), "_law_is_worth", "_law_is_worth", defArgs s_l_is_worth, defBody s_l_is_worth, defScope s_l_is_worth, [], []⟩
def hk_d70 : He.DefD := ⟨("_law_place", none), "_law_place", "_law_place", defArgs s_l_place, defBody s_l_place, defScope s_l_place, [], []⟩
def hk_d71 : He.DefD := ⟨("_law_letter", none), "_law_letter", "_law_letter", defArgs s_l_letter, defBody s_l_letter, defScope s_l_letter, [], []⟩
def hk_d72 : He.DefD := ⟨("_law_asked", none), "_law_asked", "_law_asked", defArgs s_l_asked, defBody s_l_asked, defScope s_l_asked, [], []⟩
def hk_d73 : He.DefD := ⟨("_law_is_place", none), "_law_is_place", "_law_is_place", defArgs s_l_is_place, defBody s_l_is_place, defScope s_l_is_place, [], []⟩
def hk_d74 : He.DefD := ⟨("_law_right", none), "_law_right", "_law_right", defArgs s_l_right, defBody s_l_right, defScope s_l_right, [], []⟩
def hk_d75 : He.DefD := ⟨("law", none), "law", "law", defArgs s_law, defBody s_law, defScope s_law, [], []⟩
def hk_fn : List He.DefD := [hk_d1, hk_d2, hk_d3, hk_d4, hk_d5, hk_d6, hk_d7, hk_d8, hk_d9, hk_d10, hk_d11, hk_d12, hk_d13, hk_d14, hk_d15, hk_d16, hk_d17, hk_d18, hk_d19, hk_d20, hk_d21, hk_d22, hk_d23, hk_d24, hk_d25, hk_d26, hk_d27, hk_d28, hk_d29, hk_d30, hk_d31, hk_d32, hk_d33, hk_d34, hk_d35, hk_d36, hk_d37, hk_d38, hk_d39, hk_d40, hk_d41, hk_d42, hk_d43, hk_d44, hk_d45, hk_d46, hk_d47, hk_d48, hk_d49, hk_d50, hk_d51, hk_d52, hk_d53, hk_d54, hk_d55, hk_d56, hk_d57, hk_d58, hk_d59, hk_d60, hk_d61, hk_d62, hk_d63, hk_d64, hk_d65, hk_d66, hk_d67, hk_d68, hk_d69, hk_d70, hk_d71, hk_d72, hk_d73, hk_d74, hk_d75]
def hk_fa : List He.Fa := [.int "LEAST_SIZE" 2, .int "MOST_SIZE" 16, .str "LETTERS" "abcdefghijklmnopqrstuvwxyz", .int "MOST_NAME" 8, .int "MOST_PLACES" 10, .int "MOST_ROADS" 80]
def hk_e0 (K : PySem.W.Frag) : Bool := (([Hk.okF K ("is_integer", none) "is_integer",
  Hk.okF K ("common", none) "common",
  Hk.okF K ("is_number", none) "is_number",
  Hk.okF K ("Numbers", some "__init__") "Numbers.__init__",
  Hk.okF K ("Numbers", some "__eq__") "Numbers.__eq__",
  Hk.okF K ("Numbers", some "is_worth") "Numbers.is_worth",
  Hk.okF K ("Lengths", some "__init__") "Lengths.__init__",
  Hk.okF K ("Lengths", some "__eq__") "Lengths.__eq__",
  Hk.okF K ("Lengths", some "is_worth") "Lengths.is_worth",
  Hk.okF K ("is_square", none) "is_square",
  Hk.okF K ("check_size", none) "check_size",
  Hk.okF K ("check_singles", none) "check_singles",
  Hk.okF K ("check_swaps", none) "check_swaps",
  Hk.okF K ("check_grouping", none) "check_grouping",
  Hk.okF K ("check_over", none) "check_over",
  Hk.okF K ("Reckoning", some "joined") "Reckoning.joined",
  Hk.okF K ("Reckoning", some "met") "Reckoning.met",
  Hk.okF K ("Reckoning", some "__init__") "Reckoning.__init__",
  Hk.okF K ("Reckoning", some "__eq__") "Reckoning.__eq__",
  Hk.okF K ("Reckoning", some "is_worth") "Reckoning.is_worth",
  Hk.okF K ("Reckoning", some "check") "Reckoning.check",
  Hk.okF K ("Reckoning", some "join") "Reckoning.join",
  Hk.okF K ("Reckoning", some "times") "Reckoning.times",
  Hk.okF K ("Lengths", some "check") "Lengths.check",
  Hk.okF K ("Lengths", some "join") "Lengths.join",
  Hk.okF K ("Lengths", some "times") "Lengths.times",
  Hk.okF K ("as_ratio", none) "as_ratio",
  Hk.okF K ("Ratio", some "__add__") "Ratio.__add__",
  Hk.okF K ("Ratio", some "__radd__") "Ratio.__radd__",
  Hk.okF K ("Ratio", some "__mul__") "Ratio.__mul__",
  Hk.okF K ("Ratio", some "__rmul__") "Ratio.__rmul__",
  Hk.okF K ("Ratio", some "__eq__") "Ratio.__eq__",
  Hk.okF K ("Numbers", some "check") "Numbers.check",
  Hk.okF K ("Numbers", some "join") "Numbers.join",
  Hk.okF K ("Numbers", some "times") "Numbers.times",
  Hk.okF K ("is_letters", none) "is_letters",
  Hk.okF K ("is_letter", none) "is_letter",
  Hk.okF K ("is_name", none) "is_name",
  Hk.okF K ("check_reckoning", none) "check_reckoning",
  Hk.okF K ("plain_worth", none) "plain_worth"] : List Bool)).all id
def hk_e1 (K : PySem.W.Frag) : Bool := (([Hk.okF K ("checked_places", none) "checked_places",
  Hk.okF K ("is_road", none) "is_road",
  Hk.okF K ("checked_roads", none) "checked_roads",
  Hk.okF K ("Web", some "__init__") "Web.__init__",
  Hk.okF K ("Web", some "worth") "Web.worth",
  Hk.okF K ("_law_hand", none) "_law_hand",
  Hk.okF K ("_law_draw", none) "_law_draw",
  Hk.okF K ("_law_chain", none) "_law_chain",
  Hk.okF K ("_law_products", none) "_law_products",
  Hk.okF K ("_law_monoid", none) "_law_monoid",
  Hk.okF K ("_law_lot", none) "_law_lot",
  Hk.okF K ("_law_lots", none) "_law_lots",
  Hk.okF K ("_law_paired", none) "_law_paired",
  Hk.okF K ("_law_beside", none) "_law_beside",
  Hk.okF K ("_law_turned", none) "_law_turned",
  Hk.okF K ("_law_order", none) "_law_order",
  Hk.okF K ("_law_renamed", none) "_law_renamed",
  Hk.okF K ("_law_made", none) "_law_made",
  Hk.okF K ("_law_names", none) "_law_names",
  Hk.okF K ("_law_reckoning", none) "_law_reckoning",
  Hk.okF K ("_law_none", none) "_law_none",
  Hk.okF K ("_law_handed", none) "_law_handed",
  Hk.okF K ("_law_world", none) "_law_world",
  Hk.okF K ("_law_worth", none) "_law_worth",
  Hk.okF K ("_law_roads", none) "_law_roads",
  Hk.okF K ("_law_web", none) "_law_web",
  Hk.okF K ("_law_is_worth", none) "_law_is_worth",
  Hk.okF K ("_law_place", none) "_law_place",
  Hk.okF K ("_law_letter", none) "_law_letter",
  Hk.okF K ("_law_asked", none) "_law_asked",
  Hk.okF K ("_law_is_place", none) "_law_is_place",
  Hk.okF K ("_law_right", none) "_law_right",
  Hk.okF K ("law", none) "law",
  decide (PySem.W.nsIn K mainGlobals "Ratio" = some (some (.ref (He.ga K "Ratio")))),
  decide (PySem.W.plainGet K (He.ga K "Ratio") Str.empty = true),
  decide (PySem.W.hasDictIn K (He.ga K "Ratio") = true),
  decide (PySem.W.plainOver K (He.ga K "Ratio") = true),
  decide (PySem.W.findIn K (.ref (He.ga K "Ratio")) "__setattr__" = some (some (.builtin "object.__setattr__"))),
  decide (PySem.W.findIn K (.ref (He.ga K "Ratio")) "__class__" = some (some (.builtin "object.__class__"))),
  decide (PySem.W.mroIn K (He.ga K "Ratio") (.type "object") = some true)] : List Bool)).all id
def hk_e2 (K : PySem.W.Frag) : Bool := (([decide (PySem.W.specialIn K (.builtin "object.__class__") "__get__" = some (some (.builtin "getset_descriptor.__get__"))),
  decide (PySem.W.takesIn K (.builtin "object.__class__") = some true),
  decide (PySem.W.findIn K (.ref (He.ga K "Ratio")) "top" = some none),
  decide (PySem.W.findIn K (.ref (He.ga K "Ratio")) "bottom" = some none),
  decide (PySem.W.nsIn K mainGlobals "Numbers" = some (some (.ref (He.ga K "Numbers")))),
  decide (PySem.W.plainGet K (He.ga K "Numbers") Str.empty = true),
  decide (PySem.W.hasDictIn K (He.ga K "Numbers") = true),
  decide (PySem.W.plainOver K (He.ga K "Numbers") = true),
  decide (PySem.W.findIn K (.ref (He.ga K "Numbers")) "__setattr__" = some (some (.builtin "object.__setattr__"))),
  decide (PySem.W.findIn K (.ref (He.ga K "Numbers")) "__class__" = some (some (.builtin "object.__class__"))),
  decide (PySem.W.mroIn K (He.ga K "Numbers") (.type "object") = some true),
  decide (PySem.W.specialIn K (.builtin "object.__class__") "__get__" = some (some (.builtin "getset_descriptor.__get__"))),
  decide (PySem.W.takesIn K (.builtin "object.__class__") = some true),
  decide (PySem.W.findIn K (.ref (He.ga K "Numbers")) "none" = some none),
  decide (PySem.W.findIn K (.ref (He.ga K "Numbers")) "one" = some none),
  decide (PySem.W.nsIn K mainGlobals "Lengths" = some (some (.ref (He.ga K "Lengths")))),
  decide (PySem.W.plainGet K (He.ga K "Lengths") Str.empty = true),
  decide (PySem.W.hasDictIn K (He.ga K "Lengths") = true),
  decide (PySem.W.plainOver K (He.ga K "Lengths") = true),
  decide (PySem.W.findIn K (.ref (He.ga K "Lengths")) "__setattr__" = some (some (.builtin "object.__setattr__"))),
  decide (PySem.W.findIn K (.ref (He.ga K "Lengths")) "__class__" = some (some (.builtin "object.__class__"))),
  decide (PySem.W.mroIn K (He.ga K "Lengths") (.type "object") = some true),
  decide (PySem.W.specialIn K (.builtin "object.__class__") "__get__" = some (some (.builtin "getset_descriptor.__get__"))),
  decide (PySem.W.takesIn K (.builtin "object.__class__") = some true),
  decide (PySem.W.findIn K (.ref (He.ga K "Lengths")) "none" = some none),
  decide (PySem.W.findIn K (.ref (He.ga K "Lengths")) "one" = some none),
  decide (PySem.W.nsIn K mainGlobals "Reckoning" = some (some (.ref (He.ga K "Reckoning")))),
  decide (PySem.W.plainGet K (He.ga K "Reckoning") Str.empty = true),
  decide (PySem.W.hasDictIn K (He.ga K "Reckoning") = true),
  decide (PySem.W.plainOver K (He.ga K "Reckoning") = true),
  decide (PySem.W.findIn K (.ref (He.ga K "Reckoning")) "__setattr__" = some (some (.builtin "object.__setattr__"))),
  decide (PySem.W.findIn K (.ref (He.ga K "Reckoning")) "__class__" = some (some (.builtin "object.__class__"))),
  decide (PySem.W.mroIn K (He.ga K "Reckoning") (.type "object") = some true),
  decide (PySem.W.specialIn K (.builtin "object.__class__") "__get__" = some (some (.builtin "getset_descriptor.__get__"))),
  decide (PySem.W.takesIn K (.builtin "object.__class__") = some true),
  decide (PySem.W.findIn K (.ref (He.ga K "Reckoning")) "joins" = some none),
  decide (PySem.W.findIn K (.ref (He.ga K "Reckoning")) "products" = some none),
  decide (PySem.W.findIn K (.ref (He.ga K "Reckoning")) "none" = some none),
  decide (PySem.W.findIn K (.ref (He.ga K "Reckoning")) "one" = some none),
  decide (PySem.W.findIn K (.ref (He.ga K "Reckoning")) "meets" = some none)] : List Bool)).all id
def hk_e3 (K : PySem.W.Frag) : Bool := (([decide (PySem.W.findIn K (.ref (He.ga K "Reckoning")) "lefts" = some none),
  decide (PySem.W.findIn K (.ref (He.ga K "Reckoning")) "rights" = some none),
  decide (PySem.W.nsIn K mainGlobals "Tongues" = some (some (.ref (He.ga K "Tongues")))),
  decide (PySem.W.plainGet K (He.ga K "Tongues") Str.empty = true),
  decide (PySem.W.hasDictIn K (He.ga K "Tongues") = true),
  decide (PySem.W.plainOver K (He.ga K "Tongues") = true),
  decide (PySem.W.findIn K (.ref (He.ga K "Tongues")) "__setattr__" = some (some (.builtin "object.__setattr__"))),
  decide (PySem.W.findIn K (.ref (He.ga K "Tongues")) "__class__" = some (some (.builtin "object.__class__"))),
  decide (PySem.W.mroIn K (He.ga K "Tongues") (.type "object") = some true),
  decide (PySem.W.specialIn K (.builtin "object.__class__") "__get__" = some (some (.builtin "getset_descriptor.__get__"))),
  decide (PySem.W.takesIn K (.builtin "object.__class__") = some true),
  decide (PySem.W.findIn K (.ref (He.ga K "Tongues")) "signs" = some none),
  decide (PySem.W.findIn K (.ref (He.ga K "Tongues")) "none" = some none),
  decide (PySem.W.findIn K (.ref (He.ga K "Tongues")) "one" = some none),
  decide (PySem.W.nsIn K mainGlobals "Web" = some (some (.ref (He.ga K "Web")))),
  decide (PySem.W.plainGet K (He.ga K "Web") Str.empty = true),
  decide (PySem.W.hasDictIn K (He.ga K "Web") = true),
  decide (PySem.W.plainOver K (He.ga K "Web") = true),
  decide (PySem.W.findIn K (.ref (He.ga K "Web")) "__setattr__" = some (some (.builtin "object.__setattr__"))),
  decide (PySem.W.findIn K (.ref (He.ga K "Web")) "__class__" = some (some (.builtin "object.__class__"))),
  decide (PySem.W.mroIn K (He.ga K "Web") (.type "object") = some true),
  decide (PySem.W.specialIn K (.builtin "object.__class__") "__get__" = some (some (.builtin "getset_descriptor.__get__"))),
  decide (PySem.W.takesIn K (.builtin "object.__class__") = some true),
  decide (PySem.W.findIn K (.ref (He.ga K "Web")) "reckoning" = some none),
  decide (PySem.W.findIn K (.ref (He.ga K "Web")) "places" = some none),
  decide (PySem.W.findIn K (.ref (He.ga K "Web")) "kept" = some none),
  decide (PySem.W.findIn K (.ref (He.ga K "Web")) "roads" = some none),
  decide (PySem.W.mroIn K (He.ga K "Ratio") (.type "int") = some false),
  decide (PySem.W.mroIn K (He.ga K "Ratio") (.type "bool") = some false),
  decide (PySem.W.isClsIn K (He.ga K "Ratio") = true),
  decide (PySem.W.typeIn K (.ref (He.ga K "Ratio")) = some (.type "type")),
  decide (PySem.W.subIn K (.ref (He.ga K "Ratio")) (.ref (He.ga K "Numbers")) = some false),
  decide (PySem.W.subIn K (.ref (He.ga K "Ratio")) (.ref (He.ga K "Ratio")) = some true),
  decide (PySem.W.findIn K (.ref (He.ga K "Ratio")) "__ne__" = some (some (.builtin "object.__ne__"))),
  decide (PySem.W.selfFirst K (He.ga K "Ratio") = true),
  decide (PySem.W.mroIn K (He.ga K "Numbers") (.type "int") = some false),
  decide (PySem.W.mroIn K (He.ga K "Numbers") (.type "bool") = some false),
  decide (PySem.W.isClsIn K (He.ga K "Numbers") = true),
  decide (PySem.W.typeIn K (.ref (He.ga K "Numbers")) = some (.type "type")),
  decide (PySem.W.subIn K (.ref (He.ga K "Numbers")) (.ref (He.ga K "Ratio")) = some false)] : List Bool)).all id
def hk_e4 (K : PySem.W.Frag) : Bool := (([decide (PySem.W.subIn K (.ref (He.ga K "Numbers")) (.ref (He.ga K "Reckoning")) = some false),
  decide (PySem.W.subIn K (.ref (He.ga K "Numbers")) (.ref (He.ga K "Lengths")) = some false),
  decide (PySem.W.subIn K (.ref (He.ga K "Numbers")) (.ref (He.ga K "Tongues")) = some false),
  decide (PySem.W.subIn K (.ref (He.ga K "Numbers")) (.ref (He.ga K "Numbers")) = some true),
  decide (PySem.W.findIn K (.ref (He.ga K "Numbers")) "__ne__" = some (some (.builtin "object.__ne__"))),
  decide (PySem.W.mroIn K (He.ga K "Numbers") (.type "NoneType") = some false),
  decide (PySem.W.mroIn K (He.ga K "Numbers") (.type "str") = some false),
  decide (PySem.W.mroIn K (He.ga K "Numbers") (.type "list") = some false),
  decide (PySem.W.mroIn K (He.ga K "Lengths") (.type "int") = some false),
  decide (PySem.W.mroIn K (He.ga K "Lengths") (.type "bool") = some false),
  decide (PySem.W.isClsIn K (He.ga K "Lengths") = true),
  decide (PySem.W.typeIn K (.ref (He.ga K "Lengths")) = some (.type "type")),
  decide (PySem.W.subIn K (.ref (He.ga K "Lengths")) (.ref (He.ga K "Ratio")) = some false),
  decide (PySem.W.subIn K (.ref (He.ga K "Lengths")) (.ref (He.ga K "Numbers")) = some false),
  decide (PySem.W.subIn K (.ref (He.ga K "Lengths")) (.ref (He.ga K "Reckoning")) = some false),
  decide (PySem.W.subIn K (.ref (He.ga K "Lengths")) (.ref (He.ga K "Tongues")) = some false),
  decide (PySem.W.subIn K (.ref (He.ga K "Lengths")) (.ref (He.ga K "Lengths")) = some true),
  decide (PySem.W.findIn K (.ref (He.ga K "Lengths")) "__ne__" = some (some (.builtin "object.__ne__"))),
  decide (PySem.W.mroIn K (He.ga K "Reckoning") (.type "int") = some false),
  decide (PySem.W.mroIn K (He.ga K "Reckoning") (.type "bool") = some false),
  decide (PySem.W.isClsIn K (He.ga K "Reckoning") = true),
  decide (PySem.W.typeIn K (.ref (He.ga K "Reckoning")) = some (.type "type")),
  decide (PySem.W.subIn K (.ref (He.ga K "Reckoning")) (.ref (He.ga K "Ratio")) = some false),
  decide (PySem.W.subIn K (.ref (He.ga K "Reckoning")) (.ref (He.ga K "Numbers")) = some false),
  decide (PySem.W.subIn K (.ref (He.ga K "Reckoning")) (.ref (He.ga K "Lengths")) = some false),
  decide (PySem.W.subIn K (.ref (He.ga K "Reckoning")) (.ref (He.ga K "Tongues")) = some false),
  decide (PySem.W.subIn K (.ref (He.ga K "Reckoning")) (.ref (He.ga K "Reckoning")) = some true),
  decide (PySem.W.findIn K (.ref (He.ga K "Reckoning")) "__ne__" = some (some (.builtin "object.__ne__"))),
  decide (PySem.W.mroIn K (He.ga K "Tongues") (.type "int") = some false),
  decide (PySem.W.mroIn K (He.ga K "Tongues") (.type "bool") = some false),
  decide (PySem.W.isClsIn K (He.ga K "Tongues") = true),
  decide (PySem.W.typeIn K (.ref (He.ga K "Tongues")) = some (.type "type")),
  decide (PySem.W.subIn K (.ref (He.ga K "Tongues")) (.ref (He.ga K "Tongues")) = some true),
  decide (PySem.W.typeIn K (.ref (He.fAd K ("BadNumber", some "__init__"))) = some (.type "function")),
  decide (PySem.W.specialIn K (.builtin "object.__class__") "__get__" = some (some (.builtin "getset_descriptor.__get__"))),
  decide (PySem.W.takesIn K (.builtin "object.__class__") = some true),
  decide (PySem.W.nsIn K mainGlobals "BadNumber" = some (some (.ref (He.ga K "BadNumber")))),
  Hk.oexB K (He.ga K "BadNumber"),
  decide (PySem.W.findIn K (.ref (He.ga K "BadNumber")) "__setattr__" = some (some (.builtin "object.__setattr__"))),
  decide (PySem.W.subIn K (.ref (He.ga K "BadNumber")) (.type "BaseException") = some true)] : List Bool)).all id
def hk_e5 (K : PySem.W.Frag) : Bool := (([decide (PySem.W.typeIn K (.ref (He.ga K "BadNumber")) = some (.type "type")),
  decide (PySem.W.keepIn K (.ref (He.ga K "BadNumber")) = true),
  decide (PySem.W.findIn K (.ref (He.ga K "BadNumber")) "__init__" = some (some (.ref (He.fAd K ("BadNumber", some "__init__"))))),
  decide (PySem.W.findIn K (.ref (He.ga K "BadNumber")) "value" = some none),
  decide (PySem.W.findIn K (.ref (He.ga K "BadNumber")) "__getattribute__" = some (some (.builtin "BaseException.__getattribute__"))),
  decide (PySem.W.findIn K (.ref (He.ga K "BadNumber")) "__getattr__" = some none),
  decide (PySem.W.hasDictIn K (He.ga K "BadNumber") = true),
  decide (PySem.W.findIn K (.ref (He.ga K "BadNumber")) "__class__" = some (some (.builtin "object.__class__"))),
  decide (PySem.W.mroIn K (He.ga K "BadNumber") (.type "object") = some true),
  decide (PySem.W.isClsIn K (He.ga K "BadNumber") = true),
  decide (PySem.W.subIn K (.ref (He.ga K "BadNumber")) (.ref (He.ga K "BadNumber")) = some true),
  decide (PySem.W.nsIn K mainGlobals "BadReckoning" = some (some (.ref (He.ga K "BadReckoning")))),
  Hk.oexB K (He.ga K "BadReckoning"),
  decide (PySem.W.findIn K (.ref (He.ga K "BadReckoning")) "__setattr__" = some (some (.builtin "object.__setattr__"))),
  decide (PySem.W.subIn K (.ref (He.ga K "BadReckoning")) (.type "BaseException") = some true),
  decide (PySem.W.typeIn K (.ref (He.ga K "BadReckoning")) = some (.type "type")),
  decide (PySem.W.keepIn K (.ref (He.ga K "BadReckoning")) = true),
  decide (PySem.W.findIn K (.ref (He.ga K "BadReckoning")) "__init__" = some (some (.ref (He.fAd K ("BadNumber", some "__init__"))))),
  decide (PySem.W.findIn K (.ref (He.ga K "BadReckoning")) "value" = some none),
  decide (PySem.W.findIn K (.ref (He.ga K "BadReckoning")) "__getattribute__" = some (some (.builtin "BaseException.__getattribute__"))),
  decide (PySem.W.findIn K (.ref (He.ga K "BadReckoning")) "__getattr__" = some none),
  decide (PySem.W.hasDictIn K (He.ga K "BadReckoning") = true),
  decide (PySem.W.findIn K (.ref (He.ga K "BadReckoning")) "__class__" = some (some (.builtin "object.__class__"))),
  decide (PySem.W.mroIn K (He.ga K "BadReckoning") (.type "object") = some true),
  decide (PySem.W.isClsIn K (He.ga K "BadReckoning") = true),
  decide (PySem.W.subIn K (.ref (He.ga K "BadReckoning")) (.ref (He.ga K "BadReckoning")) = some true),
  decide (PySem.W.nsIn K mainGlobals "BadWorth" = some (some (.ref (He.ga K "BadWorth")))),
  Hk.oexB K (He.ga K "BadWorth"),
  decide (PySem.W.findIn K (.ref (He.ga K "BadWorth")) "__setattr__" = some (some (.builtin "object.__setattr__"))),
  decide (PySem.W.subIn K (.ref (He.ga K "BadWorth")) (.type "BaseException") = some true),
  decide (PySem.W.typeIn K (.ref (He.ga K "BadWorth")) = some (.type "type")),
  decide (PySem.W.keepIn K (.ref (He.ga K "BadWorth")) = true),
  decide (PySem.W.findIn K (.ref (He.ga K "BadWorth")) "__init__" = some (some (.ref (He.fAd K ("BadNumber", some "__init__"))))),
  decide (PySem.W.findIn K (.ref (He.ga K "BadWorth")) "value" = some none),
  decide (PySem.W.findIn K (.ref (He.ga K "BadWorth")) "__getattribute__" = some (some (.builtin "BaseException.__getattribute__"))),
  decide (PySem.W.findIn K (.ref (He.ga K "BadWorth")) "__getattr__" = some none),
  decide (PySem.W.hasDictIn K (He.ga K "BadWorth") = true),
  decide (PySem.W.findIn K (.ref (He.ga K "BadWorth")) "__class__" = some (some (.builtin "object.__class__"))),
  decide (PySem.W.mroIn K (He.ga K "BadWorth") (.type "object") = some true),
  decide (PySem.W.isClsIn K (He.ga K "BadWorth") = true)] : List Bool)).all id
def hk_e6 (K : PySem.W.Frag) : Bool := (([decide (PySem.W.subIn K (.ref (He.ga K "BadWorth")) (.ref (He.ga K "BadWorth")) = some true),
  decide (PySem.W.nsIn K mainGlobals "BadWeb" = some (some (.ref (He.ga K "BadWeb")))),
  Hk.oexB K (He.ga K "BadWeb"),
  decide (PySem.W.findIn K (.ref (He.ga K "BadWeb")) "__setattr__" = some (some (.builtin "object.__setattr__"))),
  decide (PySem.W.subIn K (.ref (He.ga K "BadWeb")) (.type "BaseException") = some true),
  decide (PySem.W.typeIn K (.ref (He.ga K "BadWeb")) = some (.type "type")),
  decide (PySem.W.keepIn K (.ref (He.ga K "BadWeb")) = true),
  decide (PySem.W.findIn K (.ref (He.ga K "BadWeb")) "__init__" = some (some (.ref (He.fAd K ("BadNumber", some "__init__"))))),
  decide (PySem.W.findIn K (.ref (He.ga K "BadWeb")) "value" = some none),
  decide (PySem.W.findIn K (.ref (He.ga K "BadWeb")) "__getattribute__" = some (some (.builtin "BaseException.__getattribute__"))),
  decide (PySem.W.findIn K (.ref (He.ga K "BadWeb")) "__getattr__" = some none),
  decide (PySem.W.hasDictIn K (He.ga K "BadWeb") = true),
  decide (PySem.W.findIn K (.ref (He.ga K "BadWeb")) "__class__" = some (some (.builtin "object.__class__"))),
  decide (PySem.W.mroIn K (He.ga K "BadWeb") (.type "object") = some true),
  decide (PySem.W.isClsIn K (He.ga K "BadWeb") = true),
  decide (PySem.W.subIn K (.ref (He.ga K "BadWeb")) (.ref (He.ga K "BadWeb")) = some true),
  decide (PySem.W.nsIn K mainGlobals "BadName" = some (some (.ref (He.ga K "BadName")))),
  Hk.oexB K (He.ga K "BadName"),
  decide (PySem.W.findIn K (.ref (He.ga K "BadName")) "__setattr__" = some (some (.builtin "object.__setattr__"))),
  decide (PySem.W.subIn K (.ref (He.ga K "BadName")) (.type "BaseException") = some true),
  decide (PySem.W.typeIn K (.ref (He.ga K "BadName")) = some (.type "type")),
  decide (PySem.W.keepIn K (.ref (He.ga K "BadName")) = true),
  decide (PySem.W.findIn K (.ref (He.ga K "BadName")) "__init__" = some (some (.ref (He.fAd K ("BadNumber", some "__init__"))))),
  decide (PySem.W.findIn K (.ref (He.ga K "BadName")) "value" = some none),
  decide (PySem.W.findIn K (.ref (He.ga K "BadName")) "__getattribute__" = some (some (.builtin "BaseException.__getattribute__"))),
  decide (PySem.W.findIn K (.ref (He.ga K "BadName")) "__getattr__" = some none),
  decide (PySem.W.hasDictIn K (He.ga K "BadName") = true),
  decide (PySem.W.findIn K (.ref (He.ga K "BadName")) "__class__" = some (some (.builtin "object.__class__"))),
  decide (PySem.W.mroIn K (He.ga K "BadName") (.type "object") = some true),
  decide (PySem.W.isClsIn K (He.ga K "BadName") = true),
  decide (PySem.W.subIn K (.ref (He.ga K "BadName")) (.ref (He.ga K "BadName")) = some true),
  decide (PySem.W.nsIn K mainGlobals "BadLetter" = some (some (.ref (He.ga K "BadLetter")))),
  Hk.oexB K (He.ga K "BadLetter"),
  decide (PySem.W.findIn K (.ref (He.ga K "BadLetter")) "__setattr__" = some (some (.builtin "object.__setattr__"))),
  decide (PySem.W.subIn K (.ref (He.ga K "BadLetter")) (.type "BaseException") = some true),
  decide (PySem.W.typeIn K (.ref (He.ga K "BadLetter")) = some (.type "type")),
  decide (PySem.W.keepIn K (.ref (He.ga K "BadLetter")) = true),
  decide (PySem.W.findIn K (.ref (He.ga K "BadLetter")) "__init__" = some (some (.ref (He.fAd K ("BadNumber", some "__init__"))))),
  decide (PySem.W.findIn K (.ref (He.ga K "BadLetter")) "value" = some none),
  decide (PySem.W.findIn K (.ref (He.ga K "BadLetter")) "__getattribute__" = some (some (.builtin "BaseException.__getattribute__")))] : List Bool)).all id
def hk_e7 (K : PySem.W.Frag) : Bool := (([decide (PySem.W.findIn K (.ref (He.ga K "BadLetter")) "__getattr__" = some none),
  decide (PySem.W.hasDictIn K (He.ga K "BadLetter") = true),
  decide (PySem.W.findIn K (.ref (He.ga K "BadLetter")) "__class__" = some (some (.builtin "object.__class__"))),
  decide (PySem.W.mroIn K (He.ga K "BadLetter") (.type "object") = some true),
  decide (PySem.W.isClsIn K (He.ga K "BadLetter") = true),
  decide (PySem.W.subIn K (.ref (He.ga K "BadLetter")) (.ref (He.ga K "BadLetter")) = some true),
  decide (PySem.W.nsIn K mainGlobals "WayError" = some (some (.ref (He.ga K "WayError")))),
  Hk.oexB K (He.ga K "WayError"),
  decide (PySem.W.findIn K (.ref (He.ga K "WayError")) "__setattr__" = some (some (.builtin "object.__setattr__"))),
  decide (PySem.W.subIn K (.ref (He.ga K "WayError")) (.type "BaseException") = some true),
  decide (PySem.W.typeIn K (.ref (He.ga K "WayError")) = some (.type "type")),
  decide (PySem.W.keepIn K (.ref (He.ga K "WayError")) = true),
  decide (PySem.W.findIn K (.ref (He.ga K "WayError")) "__init__" = some (some (.ref (He.fAd K ("BadNumber", some "__init__"))))),
  decide (PySem.W.findIn K (.ref (He.ga K "WayError")) "value" = some none),
  decide (PySem.W.findIn K (.ref (He.ga K "WayError")) "__getattribute__" = some (some (.builtin "BaseException.__getattribute__"))),
  decide (PySem.W.findIn K (.ref (He.ga K "WayError")) "__getattr__" = some none),
  decide (PySem.W.hasDictIn K (He.ga K "WayError") = true),
  decide (PySem.W.findIn K (.ref (He.ga K "WayError")) "__class__" = some (some (.builtin "object.__class__"))),
  decide (PySem.W.mroIn K (He.ga K "WayError") (.type "object") = some true),
  decide (PySem.W.isClsIn K (He.ga K "WayError") = true),
  decide (PySem.W.subIn K (.ref (He.ga K "WayError")) (.ref (He.ga K "WayError")) = some true),
  decide (PySem.W.subIn K (.ref (He.ga K "BadNumber")) (.ref (He.ga K "WayError")) = some true),
  decide (PySem.W.subIn K (.ref (He.ga K "BadNumber")) (.ref (He.ga K "BadName")) = some false),
  decide (PySem.W.subIn K (.ref (He.ga K "BadNumber")) (.ref (He.ga K "BadLetter")) = some false),
  decide (PySem.W.subIn K (.ref (He.ga K "BadReckoning")) (.ref (He.ga K "WayError")) = some true),
  decide (PySem.W.subIn K (.ref (He.ga K "BadReckoning")) (.ref (He.ga K "BadName")) = some false),
  decide (PySem.W.subIn K (.ref (He.ga K "BadReckoning")) (.ref (He.ga K "BadLetter")) = some false),
  decide (PySem.W.subIn K (.ref (He.ga K "BadWorth")) (.ref (He.ga K "WayError")) = some true),
  decide (PySem.W.subIn K (.ref (He.ga K "BadWorth")) (.ref (He.ga K "BadName")) = some false),
  decide (PySem.W.subIn K (.ref (He.ga K "BadWorth")) (.ref (He.ga K "BadLetter")) = some false),
  decide (PySem.W.subIn K (.ref (He.ga K "BadWeb")) (.ref (He.ga K "WayError")) = some true),
  decide (PySem.W.subIn K (.ref (He.ga K "BadWeb")) (.ref (He.ga K "BadName")) = some false),
  decide (PySem.W.subIn K (.ref (He.ga K "BadWeb")) (.ref (He.ga K "BadLetter")) = some false),
  decide (PySem.W.subIn K (.ref (He.ga K "BadName")) (.ref (He.ga K "WayError")) = some true),
  decide (PySem.W.subIn K (.ref (He.ga K "BadName")) (.ref (He.ga K "BadName")) = some true),
  decide (PySem.W.subIn K (.ref (He.ga K "BadName")) (.ref (He.ga K "BadLetter")) = some false),
  decide (PySem.W.subIn K (.ref (He.ga K "BadLetter")) (.ref (He.ga K "WayError")) = some true),
  decide (PySem.W.subIn K (.ref (He.ga K "BadLetter")) (.ref (He.ga K "BadName")) = some false),
  decide (PySem.W.subIn K (.ref (He.ga K "BadLetter")) (.ref (He.ga K "BadLetter")) = some true),
  decide (PySem.W.keepIn K (.ref (He.fAd K ("BadNumber", some "__init__"))) = true)] : List Bool)).all id
def hk_e8 (K : PySem.W.Frag) : Bool := (([decide (PySem.W.nsIn K mainGlobals "is_integer" = some (some (.ref (He.fAd K ("is_integer", none))))),
  decide (PySem.W.keepIn K (.ref (He.fAd K ("is_integer", none))) = true),
  decide (PySem.W.nsIn K mainGlobals "common" = some (some (.ref (He.fAd K ("common", none))))),
  decide (PySem.W.keepIn K (.ref (He.fAd K ("common", none))) = true),
  decide (PySem.W.findIn K (.ref (He.ga K "Ratio")) "__init__" = some (some (.ref (He.fAd K ("Ratio", some "__init__"))))),
  decide (PySem.W.isFn K (.ref (He.fAd K ("Ratio", some "__init__"))) = true),
  decide (PySem.W.makesIn K (He.ga K "Ratio") = true),
  decide (PySem.W.keepIn K (.ref (He.ga K "Ratio")) = true),
  decide (PySem.W.keepIn K (.ref (He.fAd K ("Ratio", some "__init__"))) = true),
  decide (PySem.W.nsIn K mainGlobals "is_number" = some (some (.ref (He.fAd K ("is_number", none))))),
  decide (PySem.W.keepIn K (.ref (He.fAd K ("is_number", none))) = true),
  decide (PySem.W.findIn K (.ref (He.ga K "Numbers")) "__init__" = some (some (.ref (He.fAd K ("Numbers", some "__init__"))))),
  decide (PySem.W.isFn K (.ref (He.fAd K ("Numbers", some "__init__"))) = true),
  decide (PySem.W.makesIn K (He.ga K "Numbers") = true),
  decide (PySem.W.keepIn K (.ref (He.ga K "Numbers")) = true),
  decide (PySem.W.keepIn K (.ref (He.fAd K ("Numbers", some "__init__"))) = true),
  decide (PySem.W.findIn K (.ref (He.ga K "Numbers")) "__eq__" = some (some (.ref (He.fAd K ("Numbers", some "__eq__"))))),
  decide (PySem.W.isFn K (.ref (He.fAd K ("Numbers", some "__eq__"))) = true),
  decide (PySem.W.keepIn K (.ref (He.fAd K ("Numbers", some "__eq__"))) = true),
  decide (PySem.W.findIn K (.ref (He.ga K "Numbers")) "is_worth" = some (some (.ref (He.fAd K ("Numbers", some "is_worth"))))),
  decide (PySem.W.isFn K (.ref (He.fAd K ("Numbers", some "is_worth"))) = true),
  decide (PySem.W.keepIn K (.ref (He.fAd K ("Numbers", some "is_worth"))) = true),
  decide (PySem.W.findIn K (.ref (He.ga K "Lengths")) "__init__" = some (some (.ref (He.fAd K ("Lengths", some "__init__"))))),
  decide (PySem.W.isFn K (.ref (He.fAd K ("Lengths", some "__init__"))) = true),
  decide (PySem.W.makesIn K (He.ga K "Lengths") = true),
  decide (PySem.W.keepIn K (.ref (He.ga K "Lengths")) = true),
  decide (PySem.W.keepIn K (.ref (He.fAd K ("Lengths", some "__init__"))) = true),
  decide (PySem.W.findIn K (.ref (He.ga K "Lengths")) "__eq__" = some (some (.ref (He.fAd K ("Lengths", some "__eq__"))))),
  decide (PySem.W.isFn K (.ref (He.fAd K ("Lengths", some "__eq__"))) = true),
  decide (PySem.W.keepIn K (.ref (He.fAd K ("Lengths", some "__eq__"))) = true),
  decide (PySem.W.findIn K (.ref (He.ga K "Lengths")) "is_worth" = some (some (.ref (He.fAd K ("Lengths", some "is_worth"))))),
  decide (PySem.W.isFn K (.ref (He.fAd K ("Lengths", some "is_worth"))) = true),
  decide (PySem.W.keepIn K (.ref (He.fAd K ("Lengths", some "is_worth"))) = true),
  decide (PySem.W.nsIn K mainGlobals "is_square" = some (some (.ref (He.fAd K ("is_square", none))))),
  decide (PySem.W.keepIn K (.ref (He.fAd K ("is_square", none))) = true),
  decide (PySem.W.nsIn K mainGlobals "check_size" = some (some (.ref (He.fAd K ("check_size", none))))),
  decide (PySem.W.keepIn K (.ref (He.fAd K ("check_size", none))) = true),
  decide (PySem.W.nsIn K mainGlobals "check_singles" = some (some (.ref (He.fAd K ("check_singles", none))))),
  decide (PySem.W.keepIn K (.ref (He.fAd K ("check_singles", none))) = true),
  decide (PySem.W.nsIn K mainGlobals "check_swaps" = some (some (.ref (He.fAd K ("check_swaps", none)))))] : List Bool)).all id
def hk_e9 (K : PySem.W.Frag) : Bool := (([decide (PySem.W.keepIn K (.ref (He.fAd K ("check_swaps", none))) = true),
  decide (PySem.W.nsIn K mainGlobals "check_grouping" = some (some (.ref (He.fAd K ("check_grouping", none))))),
  decide (PySem.W.keepIn K (.ref (He.fAd K ("check_grouping", none))) = true),
  decide (PySem.W.nsIn K mainGlobals "check_over" = some (some (.ref (He.fAd K ("check_over", none))))),
  decide (PySem.W.keepIn K (.ref (He.fAd K ("check_over", none))) = true),
  decide (PySem.W.findIn K (.ref (He.ga K "Reckoning")) "joined" = some (some (.ref (He.fAd K ("Reckoning", some "joined"))))),
  decide (PySem.W.isFn K (.ref (He.fAd K ("Reckoning", some "joined"))) = true),
  decide (PySem.W.keepIn K (.ref (He.fAd K ("Reckoning", some "joined"))) = true),
  decide (PySem.W.findIn K (.ref (He.ga K "Reckoning")) "met" = some (some (.ref (He.fAd K ("Reckoning", some "met"))))),
  decide (PySem.W.isFn K (.ref (He.fAd K ("Reckoning", some "met"))) = true),
  decide (PySem.W.keepIn K (.ref (He.fAd K ("Reckoning", some "met"))) = true),
  decide (PySem.W.findIn K (.ref (He.ga K "Reckoning")) "__init__" = some (some (.ref (He.fAd K ("Reckoning", some "__init__"))))),
  decide (PySem.W.isFn K (.ref (He.fAd K ("Reckoning", some "__init__"))) = true),
  decide (PySem.W.makesIn K (He.ga K "Reckoning") = true),
  decide (PySem.W.keepIn K (.ref (He.ga K "Reckoning")) = true),
  decide (PySem.W.keepIn K (.ref (He.fAd K ("Reckoning", some "__init__"))) = true),
  decide (PySem.W.findIn K (.ref (He.ga K "Reckoning")) "__eq__" = some (some (.ref (He.fAd K ("Reckoning", some "__eq__"))))),
  decide (PySem.W.isFn K (.ref (He.fAd K ("Reckoning", some "__eq__"))) = true),
  decide (PySem.W.keepIn K (.ref (He.fAd K ("Reckoning", some "__eq__"))) = true),
  decide (PySem.W.findIn K (.ref (He.ga K "Reckoning")) "is_worth" = some (some (.ref (He.fAd K ("Reckoning", some "is_worth"))))),
  decide (PySem.W.isFn K (.ref (He.fAd K ("Reckoning", some "is_worth"))) = true),
  decide (PySem.W.keepIn K (.ref (He.fAd K ("Reckoning", some "is_worth"))) = true),
  decide (PySem.W.findIn K (.ref (He.ga K "Reckoning")) "check" = some (some (.ref (He.fAd K ("Reckoning", some "check"))))),
  decide (PySem.W.isFn K (.ref (He.fAd K ("Reckoning", some "check"))) = true),
  decide (PySem.W.keepIn K (.ref (He.fAd K ("Reckoning", some "check"))) = true),
  decide (PySem.W.findIn K (.ref (He.ga K "Reckoning")) "join" = some (some (.ref (He.fAd K ("Reckoning", some "join"))))),
  decide (PySem.W.isFn K (.ref (He.fAd K ("Reckoning", some "join"))) = true),
  decide (PySem.W.keepIn K (.ref (He.fAd K ("Reckoning", some "join"))) = true),
  decide (PySem.W.findIn K (.ref (He.ga K "Reckoning")) "times" = some (some (.ref (He.fAd K ("Reckoning", some "times"))))),
  decide (PySem.W.isFn K (.ref (He.fAd K ("Reckoning", some "times"))) = true),
  decide (PySem.W.keepIn K (.ref (He.fAd K ("Reckoning", some "times"))) = true),
  decide (PySem.W.findIn K (.ref (He.ga K "Lengths")) "check" = some (some (.ref (He.fAd K ("Lengths", some "check"))))),
  decide (PySem.W.isFn K (.ref (He.fAd K ("Lengths", some "check"))) = true),
  decide (PySem.W.keepIn K (.ref (He.fAd K ("Lengths", some "check"))) = true),
  decide (PySem.W.findIn K (.ref (He.ga K "Lengths")) "join" = some (some (.ref (He.fAd K ("Lengths", some "join"))))),
  decide (PySem.W.isFn K (.ref (He.fAd K ("Lengths", some "join"))) = true),
  decide (PySem.W.keepIn K (.ref (He.fAd K ("Lengths", some "join"))) = true),
  decide (PySem.W.findIn K (.ref (He.ga K "Lengths")) "times" = some (some (.ref (He.fAd K ("Lengths", some "times"))))),
  decide (PySem.W.isFn K (.ref (He.fAd K ("Lengths", some "times"))) = true),
  decide (PySem.W.keepIn K (.ref (He.fAd K ("Lengths", some "times"))) = true)] : List Bool)).all id
def hk_e10 (K : PySem.W.Frag) : Bool := (([decide (PySem.W.nsIn K mainGlobals "as_ratio" = some (some (.ref (He.fAd K ("as_ratio", none))))),
  decide (PySem.W.keepIn K (.ref (He.fAd K ("as_ratio", none))) = true),
  decide (PySem.W.findIn K (.ref (He.ga K "Ratio")) "__add__" = some (some (.ref (He.fAd K ("Ratio", some "__add__"))))),
  decide (PySem.W.isFn K (.ref (He.fAd K ("Ratio", some "__add__"))) = true),
  decide (PySem.W.keepIn K (.ref (He.fAd K ("Ratio", some "__add__"))) = true),
  decide (PySem.W.findIn K (.ref (He.ga K "Ratio")) "__radd__" = some (some (.ref (He.fAd K ("Ratio", some "__radd__"))))),
  decide (PySem.W.isFn K (.ref (He.fAd K ("Ratio", some "__radd__"))) = true),
  decide (PySem.W.keepIn K (.ref (He.fAd K ("Ratio", some "__radd__"))) = true),
  decide (PySem.W.findIn K (.ref (He.ga K "Ratio")) "__mul__" = some (some (.ref (He.fAd K ("Ratio", some "__mul__"))))),
  decide (PySem.W.isFn K (.ref (He.fAd K ("Ratio", some "__mul__"))) = true),
  decide (PySem.W.keepIn K (.ref (He.fAd K ("Ratio", some "__mul__"))) = true),
  decide (PySem.W.findIn K (.ref (He.ga K "Ratio")) "__rmul__" = some (some (.ref (He.fAd K ("Ratio", some "__rmul__"))))),
  decide (PySem.W.isFn K (.ref (He.fAd K ("Ratio", some "__rmul__"))) = true),
  decide (PySem.W.keepIn K (.ref (He.fAd K ("Ratio", some "__rmul__"))) = true),
  decide (PySem.W.findIn K (.ref (He.ga K "Ratio")) "__eq__" = some (some (.ref (He.fAd K ("Ratio", some "__eq__"))))),
  decide (PySem.W.isFn K (.ref (He.fAd K ("Ratio", some "__eq__"))) = true),
  decide (PySem.W.keepIn K (.ref (He.fAd K ("Ratio", some "__eq__"))) = true),
  decide (PySem.W.findIn K (.ref (He.ga K "Numbers")) "check" = some (some (.ref (He.fAd K ("Numbers", some "check"))))),
  decide (PySem.W.isFn K (.ref (He.fAd K ("Numbers", some "check"))) = true),
  decide (PySem.W.keepIn K (.ref (He.fAd K ("Numbers", some "check"))) = true),
  decide (PySem.W.findIn K (.ref (He.ga K "Numbers")) "join" = some (some (.ref (He.fAd K ("Numbers", some "join"))))),
  decide (PySem.W.isFn K (.ref (He.fAd K ("Numbers", some "join"))) = true),
  decide (PySem.W.keepIn K (.ref (He.fAd K ("Numbers", some "join"))) = true),
  decide (PySem.W.findIn K (.ref (He.ga K "Numbers")) "times" = some (some (.ref (He.fAd K ("Numbers", some "times"))))),
  decide (PySem.W.isFn K (.ref (He.fAd K ("Numbers", some "times"))) = true),
  decide (PySem.W.keepIn K (.ref (He.fAd K ("Numbers", some "times"))) = true),
  decide (PySem.W.nsIn K mainGlobals "is_letters" = some (some (.ref (He.fAd K ("is_letters", none))))),
  decide (PySem.W.keepIn K (.ref (He.fAd K ("is_letters", none))) = true),
  decide (PySem.W.nsIn K mainGlobals "is_letter" = some (some (.ref (He.fAd K ("is_letter", none))))),
  decide (PySem.W.keepIn K (.ref (He.fAd K ("is_letter", none))) = true),
  decide (PySem.W.nsIn K mainGlobals "is_name" = some (some (.ref (He.fAd K ("is_name", none))))),
  decide (PySem.W.keepIn K (.ref (He.fAd K ("is_name", none))) = true),
  decide (PySem.W.nsIn K mainGlobals "check_reckoning" = some (some (.ref (He.fAd K ("check_reckoning", none))))),
  decide (PySem.W.keepIn K (.ref (He.fAd K ("check_reckoning", none))) = true),
  decide (PySem.W.nsIn K mainGlobals "plain_worth" = some (some (.ref (He.fAd K ("plain_worth", none))))),
  decide (PySem.W.keepIn K (.ref (He.fAd K ("plain_worth", none))) = true),
  decide (PySem.W.nsIn K mainGlobals "checked_places" = some (some (.ref (He.fAd K ("checked_places", none))))),
  decide (PySem.W.keepIn K (.ref (He.fAd K ("checked_places", none))) = true),
  decide (PySem.W.nsIn K mainGlobals "is_road" = some (some (.ref (He.fAd K ("is_road", none))))),
  decide (PySem.W.keepIn K (.ref (He.fAd K ("is_road", none))) = true)] : List Bool)).all id
def hk_e11 (K : PySem.W.Frag) : Bool := (([decide (PySem.W.nsIn K mainGlobals "checked_roads" = some (some (.ref (He.fAd K ("checked_roads", none))))),
  decide (PySem.W.keepIn K (.ref (He.fAd K ("checked_roads", none))) = true),
  decide (PySem.W.findIn K (.ref (He.ga K "Web")) "__init__" = some (some (.ref (He.fAd K ("Web", some "__init__"))))),
  decide (PySem.W.isFn K (.ref (He.fAd K ("Web", some "__init__"))) = true),
  decide (PySem.W.makesIn K (He.ga K "Web") = true),
  decide (PySem.W.keepIn K (.ref (He.ga K "Web")) = true),
  decide (PySem.W.keepIn K (.ref (He.fAd K ("Web", some "__init__"))) = true),
  decide (PySem.W.findIn K (.ref (He.ga K "Web")) "worth" = some (some (.ref (He.fAd K ("Web", some "worth"))))),
  decide (PySem.W.isFn K (.ref (He.fAd K ("Web", some "worth"))) = true),
  decide (PySem.W.keepIn K (.ref (He.fAd K ("Web", some "worth"))) = true),
  decide (PySem.W.nsIn K mainGlobals "_law_hand" = some (some (.ref (He.fAd K ("_law_hand", none))))),
  decide (PySem.W.keepIn K (.ref (He.fAd K ("_law_hand", none))) = true),
  decide (PySem.W.nsIn K mainGlobals "_law_draw" = some (some (.ref (He.fAd K ("_law_draw", none))))),
  decide (PySem.W.keepIn K (.ref (He.fAd K ("_law_draw", none))) = true),
  decide (PySem.W.nsIn K mainGlobals "_law_chain" = some (some (.ref (He.fAd K ("_law_chain", none))))),
  decide (PySem.W.keepIn K (.ref (He.fAd K ("_law_chain", none))) = true),
  decide (PySem.W.nsIn K mainGlobals "_law_products" = some (some (.ref (He.fAd K ("_law_products", none))))),
  decide (PySem.W.keepIn K (.ref (He.fAd K ("_law_products", none))) = true),
  decide (PySem.W.nsIn K mainGlobals "_law_monoid" = some (some (.ref (He.fAd K ("_law_monoid", none))))),
  decide (PySem.W.keepIn K (.ref (He.fAd K ("_law_monoid", none))) = true),
  decide (PySem.W.nsIn K mainGlobals "_law_lot" = some (some (.ref (He.fAd K ("_law_lot", none))))),
  decide (PySem.W.keepIn K (.ref (He.fAd K ("_law_lot", none))) = true),
  decide (PySem.W.nsIn K mainGlobals "_law_lots" = some (some (.ref (He.fAd K ("_law_lots", none))))),
  decide (PySem.W.keepIn K (.ref (He.fAd K ("_law_lots", none))) = true),
  decide (PySem.W.nsIn K mainGlobals "_law_paired" = some (some (.ref (He.fAd K ("_law_paired", none))))),
  decide (PySem.W.keepIn K (.ref (He.fAd K ("_law_paired", none))) = true),
  decide (PySem.W.nsIn K mainGlobals "_law_beside" = some (some (.ref (He.fAd K ("_law_beside", none))))),
  decide (PySem.W.keepIn K (.ref (He.fAd K ("_law_beside", none))) = true),
  decide (PySem.W.nsIn K mainGlobals "_law_turned" = some (some (.ref (He.fAd K ("_law_turned", none))))),
  decide (PySem.W.keepIn K (.ref (He.fAd K ("_law_turned", none))) = true),
  decide (PySem.W.nsIn K mainGlobals "_law_order" = some (some (.ref (He.fAd K ("_law_order", none))))),
  decide (PySem.W.keepIn K (.ref (He.fAd K ("_law_order", none))) = true),
  decide (PySem.W.nsIn K mainGlobals "_law_renamed" = some (some (.ref (He.fAd K ("_law_renamed", none))))),
  decide (PySem.W.keepIn K (.ref (He.fAd K ("_law_renamed", none))) = true),
  decide (PySem.W.nsIn K mainGlobals "_law_made" = some (some (.ref (He.fAd K ("_law_made", none))))),
  decide (PySem.W.keepIn K (.ref (He.fAd K ("_law_made", none))) = true),
  decide (PySem.W.nsIn K mainGlobals "_law_names" = some (some (.ref (He.fAd K ("_law_names", none))))),
  decide (PySem.W.keepIn K (.ref (He.fAd K ("_law_names", none))) = true),
  decide (PySem.W.nsIn K mainGlobals "_law_reckoning" = some (some (.ref (He.fAd K ("_law_reckoning", none))))),
  decide (PySem.W.keepIn K (.ref (He.fAd K ("_law_reckoning", none))) = true)] : List Bool)).all id
def hk_e12 (K : PySem.W.Frag) : Bool := (([decide (PySem.W.nsIn K mainGlobals "_law_none" = some (some (.ref (He.fAd K ("_law_none", none))))),
  decide (PySem.W.keepIn K (.ref (He.fAd K ("_law_none", none))) = true),
  decide (PySem.W.nsIn K mainGlobals "_law_handed" = some (some (.ref (He.fAd K ("_law_handed", none))))),
  decide (PySem.W.keepIn K (.ref (He.fAd K ("_law_handed", none))) = true),
  decide (PySem.W.nsIn K mainGlobals "_law_world" = some (some (.ref (He.fAd K ("_law_world", none))))),
  decide (PySem.W.keepIn K (.ref (He.fAd K ("_law_world", none))) = true),
  decide (PySem.W.nsIn K mainGlobals "_law_worth" = some (some (.ref (He.fAd K ("_law_worth", none))))),
  decide (PySem.W.keepIn K (.ref (He.fAd K ("_law_worth", none))) = true),
  decide (PySem.W.nsIn K mainGlobals "_law_roads" = some (some (.ref (He.fAd K ("_law_roads", none))))),
  decide (PySem.W.keepIn K (.ref (He.fAd K ("_law_roads", none))) = true),
  decide (PySem.W.nsIn K mainGlobals "_law_web" = some (some (.ref (He.fAd K ("_law_web", none))))),
  decide (PySem.W.keepIn K (.ref (He.fAd K ("_law_web", none))) = true),
  decide (PySem.W.nsIn K mainGlobals "_law_is_worth" = some (some (.ref (He.fAd K ("_law_is_worth", none))))),
  decide (PySem.W.keepIn K (.ref (He.fAd K ("_law_is_worth", none))) = true),
  decide (PySem.W.nsIn K mainGlobals "_law_place" = some (some (.ref (He.fAd K ("_law_place", none))))),
  decide (PySem.W.keepIn K (.ref (He.fAd K ("_law_place", none))) = true),
  decide (PySem.W.nsIn K mainGlobals "_law_letter" = some (some (.ref (He.fAd K ("_law_letter", none))))),
  decide (PySem.W.keepIn K (.ref (He.fAd K ("_law_letter", none))) = true),
  decide (PySem.W.nsIn K mainGlobals "_law_asked" = some (some (.ref (He.fAd K ("_law_asked", none))))),
  decide (PySem.W.keepIn K (.ref (He.fAd K ("_law_asked", none))) = true),
  decide (PySem.W.nsIn K mainGlobals "_law_is_place" = some (some (.ref (He.fAd K ("_law_is_place", none))))),
  decide (PySem.W.keepIn K (.ref (He.fAd K ("_law_is_place", none))) = true),
  decide (PySem.W.nsIn K mainGlobals "_law_right" = some (some (.ref (He.fAd K ("_law_right", none))))),
  decide (PySem.W.keepIn K (.ref (He.fAd K ("_law_right", none))) = true),
  decide (PySem.W.nsIn K mainGlobals "law" = some (some (.ref (He.fAd K ("law", none))))),
  decide (PySem.W.keepIn K (.ref (He.fAd K ("law", none))) = true),
  decide (PySem.W.nsIn K mainGlobals "isinstance" = some none),
  decide (PySem.W.nsIn K mainGlobals "int" = some none),
  decide (PySem.W.nsIn K mainGlobals "bool" = some none),
  decide (PySem.W.nsIn K mainGlobals "abs" = some none),
  decide (PySem.W.nsIn K mainGlobals "len" = some none),
  decide (PySem.W.nsIn K mainGlobals "all" = some none),
  decide (PySem.W.nsIn K mainGlobals "list" = some none),
  decide (PySem.W.nsIn K mainGlobals "tuple" = some none),
  decide (PySem.W.nsIn K mainGlobals "range" = some none),
  decide (PySem.W.nsIn K mainGlobals "min" = some none),
  decide (PySem.W.nsIn K mainGlobals "NotImplemented" = some none),
  decide (PySem.W.nsIn K mainGlobals "str" = some none),
  decide (PySem.W.nsIn K mainGlobals "enumerate" = some none),
  decide (PySem.W.nsIn K mainGlobals "max" = some none)] : List Bool)).all id
def hk_E0 (K : PySem.W.Frag) : Bool := (fun _ => true) K && hk_e0 K
def hk_E1 (K : PySem.W.Frag) : Bool := hk_E0 K && hk_e1 K
def hk_E2 (K : PySem.W.Frag) : Bool := hk_E1 K && hk_e2 K
def hk_E3 (K : PySem.W.Frag) : Bool := hk_E2 K && hk_e3 K
def hk_E4 (K : PySem.W.Frag) : Bool := hk_E3 K && hk_e4 K
def hk_E5 (K : PySem.W.Frag) : Bool := hk_E4 K && hk_e5 K
def hk_E6 (K : PySem.W.Frag) : Bool := hk_E5 K && hk_e6 K
def hk_E7 (K : PySem.W.Frag) : Bool := hk_E6 K && hk_e7 K
def hk_E8 (K : PySem.W.Frag) : Bool := hk_E7 K && hk_e8 K
def hk_E9 (K : PySem.W.Frag) : Bool := hk_E8 K && hk_e9 K
def hk_E10 (K : PySem.W.Frag) : Bool := hk_E9 K && hk_e10 K
def hk_E11 (K : PySem.W.Frag) : Bool := hk_E10 K && hk_e11 K
def hk_E12 (K : PySem.W.Frag) : Bool := hk_E11 K && hk_e12 K
def hk_ex (K : PySem.W.Frag) : Bool := hk_E12 K
def hk_n0 : List Str := ("_wall" : Str) :: ("WayError" : Str) :: ("BadWord" : Str) :: ("BadWatches" : Str) :: ("BadBook" : Str) :: ("BadReckoning" : Str) :: ("BadWorth" : Str) :: ("BadNumber" : Str) :: ("BadWeb" : Str) :: ("BadName" : Str) :: ("BadLetter" : Str) :: ("TooMany" : Str) :: ("BadSigns" : Str) :: ("BadMoves" : Str) :: ("BadEnds" : Str) :: ("BadTexts" : Str) :: ("LETTERS" : Str) :: ("MOST_WORD" : Str) :: ("MOST_WATCH" : Str) :: ("MOST_NAME" : Str) :: ("is_integer" : Str) :: ("is_letters" : Str) :: ("is_letter" : Str) :: ("is_name" : Str) :: ("is_word" : Str) :: ("is_watch" : Str) :: ("check_word" : Str) :: ("MOST_WATCHES" : Str) :: ("Book" : Str) :: ("check_book" : Str) :: ("Lengths" : Str) :: ("common" : Str) :: ("Ratio" : Str) :: ("is_number" : Str) :: ("as_ratio" : Str) :: ("Numbers" : Str) :: ("LEAST_SIZE" : Str) :: ("MOST_SIZE" : Str) :: ("is_square" : Str) :: ("check_size" : Str) :: []
def hk_n1 : List Str := ("is_watch" : Str) :: ("check_word" : Str) :: ("MOST_WATCHES" : Str) :: ("Book" : Str) :: ("check_book" : Str) :: ("Lengths" : Str) :: ("common" : Str) :: ("Ratio" : Str) :: ("is_number" : Str) :: ("as_ratio" : Str) :: ("Numbers" : Str) :: ("LEAST_SIZE" : Str) :: ("MOST_SIZE" : Str) :: ("is_square" : Str) :: ("check_size" : Str) :: ("check_singles" : Str) :: ("check_swaps" : Str) :: ("check_grouping" : Str) :: ("check_over" : Str) :: ("Reckoning" : Str) :: ("DIGITS" : Str) :: ("MOST_SIGNS" : Str) :: ("MOST_STATES" : Str) :: ("MOST_TEXTS" : Str) :: ("MOST_LETTERS" : Str) :: ("check_signs" : Str) :: ("is_text" : Str) :: ("check_moves" : Str) :: ("check_ends" : Str) :: ("explored" : Str) :: ("marks_of" : Str) :: ("in_short" : Str) :: ("Tongue" : Str) :: ("made_of" : Str) :: ("tongue_of" : Str) :: ("longer" : Str) :: ("sorted_states" : Str) :: ("joined_tongue" : Str) :: ("begun" : Str) :: ("behind_step" : Str) :: []
def hk_n2 : List Str := ("check_signs" : Str) :: ("is_text" : Str) :: ("check_moves" : Str) :: ("check_ends" : Str) :: ("explored" : Str) :: ("marks_of" : Str) :: ("in_short" : Str) :: ("Tongue" : Str) :: ("made_of" : Str) :: ("tongue_of" : Str) :: ("longer" : Str) :: ("sorted_states" : Str) :: ("joined_tongue" : Str) :: ("begun" : Str) :: ("behind_step" : Str) :: ("put_behind" : Str) :: ("Tongues" : Str) :: ("check_reckoning" : Str) :: ("plain_worth" : Str) :: ("MOST_PLACES" : Str) :: ("MOST_ROADS" : Str) :: ("checked_places" : Str) :: ("is_road" : Str) :: ("checked_roads" : Str) :: ("unit_of" : Str) :: ("cell_of" : Str) :: ("multiplied" : Str) :: ("Web" : Str) :: ("_law_hand" : Str) :: ("_law_draw" : Str) :: ("_law_chain" : Str) :: ("_law_products" : Str) :: ("_law_monoid" : Str) :: ("_law_lot" : Str) :: ("_law_lots" : Str) :: ("_law_paired" : Str) :: ("_law_beside" : Str) :: ("_law_turned" : Str) :: ("_law_order" : Str) :: ("_law_renamed" : Str) :: []
def hk_n3 : List Str := ("cell_of" : Str) :: ("multiplied" : Str) :: ("Web" : Str) :: ("_law_hand" : Str) :: ("_law_draw" : Str) :: ("_law_chain" : Str) :: ("_law_products" : Str) :: ("_law_monoid" : Str) :: ("_law_lot" : Str) :: ("_law_lots" : Str) :: ("_law_paired" : Str) :: ("_law_beside" : Str) :: ("_law_turned" : Str) :: ("_law_order" : Str) :: ("_law_renamed" : Str) :: ("_law_made" : Str) :: ("_law_names" : Str) :: ("_law_reckoning" : Str) :: ("_law_none" : Str) :: ("_law_one" : Str) :: ("_law_join" : Str) :: ("_law_times" : Str) :: ("_law_is_worth" : Str) :: ("_law_handed" : Str) :: ("_law_world" : Str) :: ("_law_worth" : Str) :: ("_law_roads" : Str) :: ("_law_web" : Str) :: ("_law_place" : Str) :: ("_law_letter" : Str) :: ("_law_asked" : Str) :: ("_law_is_place" : Str) :: ("_law_right" : Str) :: []
def hk_n4 : List Str := ("_law_worth" : Str) :: ("_law_roads" : Str) :: ("_law_web" : Str) :: ("_law_place" : Str) :: ("_law_letter" : Str) :: ("_law_asked" : Str) :: ("_law_is_place" : Str) :: ("_law_right" : Str) :: []
abbrev hk_R : PySem.W.OpenRow := PySem.W.OpenLaw.row PySem.Challenge.rw_watchedways_k37_roads_asked
abbrev hk_q : Program := PySem.W.view hk_R.prog [120]
abbrev hk_H : PySem.W.Hook := Hk.hookM 4 hk_fa hk_fn hk_ex
def hk_ob (s : PySem.W.SharedT) : He.AlX := Hk.obsM 4 hk_fa hk_fn hk_ex (HandSHeadRun.getT s)
theorem hk_ob_eq (s : PySem.W.SharedT) : hk_ob s = hk_H.obs s.abs := Hk.obsM_eq (HandSHeadRun.getT_eq s)
def hk_names : List Str := hk_n0 ++ hk_n1 ++ hk_n2 ++ hk_n3 ++ hk_n4
open HandSHeadRun PyProof.Rows PySem PySem.W PySem.Calls in
theorem hk_l (w : World) (os : OsState) : (Hk.endW hk_R.prog 30000 w os).map (fun s => looksF hk_R.prog (boot_heap w.params) s.abs) = some (true) := by kernel_rfl
open HandSHeadRun PyProof.Rows PySem PySem.W PySem.Calls in
theorem hk_s (w : World) (os : OsState) : (Hk.endW hk_R.prog 30000 w os).map (fun s => seenQ hk_q hk_names (importedModules hk_R.prog.main.body) (fun s => xlAt hk_q [] s && recOk hk_R.toRowW.records s) s.abs) = some (openGood hk_q hk_names) := by kernel_rfl
open HandSHeadRun PyProof.Rows PySem PySem.W PySem.Calls in
theorem hk_d (w : World) (os : OsState) : (Hk.endW hk_R.prog 30000 w os).map (fun s => He.obsD hk_fa hk_fn (Hk.frM (getT s) 4)) = some (He.valD hk_fn) := by kernel_rfl
open HandSHeadRun PyProof.Rows PySem PySem.W PySem.Calls in
theorem hk_x (w : World) (os : OsState) : (Hk.endW hk_R.prog 30000 w os).map (fun s => hk_ex (Hk.frM (getT s) 4)) = some (true) := by kernel_rfl
theorem hk_run (w : World) : HandSHeadRun.RunEq hk_R hk_q hk_H hk_ob 30000 hk_names w := Hk.run_of (hk_l w) (hk_s w) (hk_d w) (hk_x w)
end W

local macro_rules | `(tactic| walk_at "rd") => `(tactic| repeat (first
  | with_reducible refine Rd.seq ?_ | with_reducible refine Rd.asg ?_ | with_reducible refine Rd.name ?_ | with_reducible refine Rd.var rfl ?_ | with_reducible refine Rd.con ?_ | with_reducible refine Rd.op ?_
  | with_reducible refine Rd.ret ?_ | with_reducible refine Rd.ifS ?_ | with_reducible refine Rd.test ?_ | with_reducible refine Rd.tstB ?_ | with_reducible refine Rd.bl ?_ | with_reducible refine Rd.blE ?_
  | with_reducible refine Rd.nil ?_ | with_reducible refine Rd.cons ?_ | with_reducible refine Rd.cb ?_ | with_reducible refine Rd.call ?_ | with_reducible refine Rd.un ?_
  | with_reducible refine Rd.i0 ?_ | with_reducible refine Rd.u1 ?_ | with_reducible refine Rd.eqI ?_ | with_reducible refine Rd.neI ?_ | with_reducible refine Rd.eqB ?_ | with_reducible refine Rd.neB ?_ | with_reducible refine Rd.eqS ?_ | with_reducible refine Rd.neS ?_
  | with_reducible refine Rd.and ?_ | with_reducible refine Rd.or ?_ | with_reducible refine Rd.not ?_ | with_reducible refine Rd.andV ?_ | with_reducible refine Rd.orV ?_ | with_reducible refine Rd.notV ?_ | with_reducible refine Rd.ifE ?_ | with_reducible refine Rd.chain ?_
  | with_reducible refine Rd.tup ?_ | with_reducible refine Rd.lst ?_ | with_reducible refine Rd.nxt ?_ | with_reducible refine Rd.retN ?_ | with_reducible refine Rd.drop ?_ | with_reducible refine Rd.brk ?_ | with_reducible refine Rd.cont ?_
  | with_reducible refine Rd.a1 ?_ | with_reducible refine Rd.a2 ?_ | with_reducible refine Rd.v2 ?_ | with_reducible refine Rd.int ?_ | with_reducible refine Rd.abs ?_ | with_reducible refine Rd.max2 ?_ | with_reducible refine Rd.min2 ?_ | with_reducible refine Rd.bm ?_ | with_reducible refine Rd.bm0 ?_ | with_reducible refine Rd.sl ?_ | with_reducible refine Rd.part ?_ | with_reducible refine Rd.noPart ?_ | with_reducible refine Rd.intE ?_ | with_reducible refine Rd.revL ?_ | with_reducible refine Rd.enx ?_ | with_reducible refine Rd.ebk ?_ | with_reducible refine Rd.ect ?_ | with_reducible refine Rd.ert ?_ | with_reducible refine Rd.gcons ?_ | with_reducible refine Rd.gnil ?_ | with_reducible refine Rd.par ?_ | with_reducible refine Rd.sub ?_ | with_reducible refine Rd.iter ?_ | with_reducible refine Rd.iterT ?_ | with_reducible refine Rd.rng1 ?_ | with_reducible refine Rd.refE ?_ | with_reducible refine Rd.aug rfl ?_ | with_reducible refine Rd.ipi ?_ | with_reducible refine Rd.lc ?_ | with_reducible refine Rd.tyes ?_ | with_reducible refine Rd.fldH ?_ | with_reducible refine Rd.sfldH ?_ | with_reducible refine Rd.mkH ?_ | with_reducible refine Rd.methH ?_ | with_reducible refine Rd.istr ?_ | with_reducible refine Rd.strE ?_ | with_reducible refine Rd.lstRg ?_ | with_reducible refine Rd.m1 ?_ | with_reducible refine Rd.dgetH ?_ | with_reducible refine Rd.dinH ?_ | with_reducible refine Rd.dninH ?_ | with_reducible refine Rd.dget1H ?_ | with_reducible refine Rd.strX ?_ | with_reducible refine Rd.tupRg ?_ | with_reducible refine Rd.rg1 ?_ | with_reducible refine Rd.rg2 ?_ | with_reducible refine Rd.intE2 ?_ | with_reducible refine Rw.zipH ?_ | with_reducible refine Rw.itemsH ?_ | with_reducible refine Rw.keysH ?_ | with_reducible refine Rw.dc ?_ | with_reducible refine Rw.ckw ?_ | with_reducible refine Rd.notT ?_ | with_reducible refine Rx.raiseH ?_ | with_reducible refine Rx.callS ?_ | with_reducible refine Rx.xvH ?_ | with_reducible refine Rx.rng3 ?_
  | with_reducible refine L2.iteT ?_ | with_reducible refine L2.iteF ?_
  | with_reducible refine Rd.iteb ?_ | with_reducible refine Rd.iten ?_ | with_reducible refine Rd.itbn ?_))

local macro_rules | `(tactic| walk_at "yes") => `(tactic| (refine (if_pos (by first | assumption | omega)).mpr ?_))
local macro_rules | `(tactic| walk_at "no") => `(tactic| (refine (if_neg (by first | assumption | omega)).mpr ?_))

local macro_rules | `(tactic| k_extra "ne") => `(tactic| first
  | with_reducible assumption | with_reducible exact Ne.symm (by with_reducible assumption) | with_reducible exact Rd.ntT (by with_reducible assumption) (by k_extra "tape")
  | with_reducible exact Rd.neN (by with_reducible assumption) (by k_extra "at") | with_reducible exact Rd.neN' (by with_reducible assumption) (by k_extra "at"))
local macro_rules | `(tactic| k_extra "tape") => `(tactic| first
  | with_reducible assumption | with_reducible exact Rd.tape_same (by with_reducible assumption) (by k_extra "tape"))
local macro_rules | `(tactic| k_extra "at") => `(tactic| first
  | with_reducible assumption
  | with_reducible exact Rd.at_same (by with_reducible assumption) (by k_extra "at")
  | with_reducible exact Rd.at_off (by with_reducible assumption) (by k_extra "ne") (by k_extra "at")
  | with_reducible exact Rd.at_but (by with_reducible assumption) (by k_extra "ne") (by k_extra "at"))
local macro_rules | `(tactic| k_extra "bk") => `(tactic| first
  | with_reducible assumption
  | with_reducible exact Rd.book_same (by with_reducible assumption) (by k_extra "bk")
  | with_reducible exact Rd.book_but (by with_reducible assumption) (by k_extra "tape") (by k_extra "bk"))
local macro_rules | `(tactic| k_extra "sqL") => `(tactic| first
  | with_reducible assumption | with_reducible exact L2.Same.seq (by with_reducible assumption) (by k_extra "sqL"))
local macro_rules | `(tactic| k_extra "sqT") => `(tactic| first
  | with_reducible assumption | with_reducible exact Ru.same_tup (by with_reducible assumption) (by k_extra "sqT"))
local macro_rules | `(tactic| k_extra "sq") => `(tactic| first
  | with_reducible assumption | (with_reducible show L2.SqL _ _ _ _; first | exact L2.SqL.of (by k_extra "at") | k_extra "sqL") | (with_reducible show L2.SqT _ _ _ _; first | exact L2.SqT.of (by k_extra "at") | k_extra "sqT"))
local macro_rules | `(tactic| k_extra "row") => `(tactic| first
  | with_reducible assumption | exact Or.inl (L2.SqL.of (by k_extra "at")) | exact Or.inr (L2.SqT.of (by k_extra "at")) | exact Or.inl (by k_extra "sqL") | exact Or.inr (by k_extra "sqT"))
local macro_rules | `(tactic| k_extra "same") => `(tactic| first
  | with_reducible exact L2.Same.refl _ | with_reducible assumption
  | with_reducible exact Rd.same_tr (by with_reducible assumption) (by k_extra "same")
  | with_reducible exact Rd.same_of2 (by with_reducible assumption) (by with_reducible assumption) (by k_extra "same"))
local macro_rules | `(tactic| k_extra "but") => `(tactic| first
  | with_reducible exact Rd.But.refl _ _ | with_reducible assumption
  | with_reducible exact Rd.but_tr (by with_reducible assumption) (by k_extra "but")
  | with_reducible exact Rd.but_sm (by with_reducible assumption) (by k_extra "but")
  | with_reducible exact Rd.but_of2 (by with_reducible assumption) (by with_reducible assumption) (by k_extra "but"))
local macro_rules | `(tactic| k_extra "sz") => `(tactic| first
  | with_reducible assumption | with_reducible exact Lt.Wd.line (by with_reducible assumption) (by decide) | (rw [PySem.sizeLine_eq]; omega)
  | (simp only [List.length_map, List.length_append, List.length_cons, List.length_nil, List.length_take] <;> rw [PySem.sizeLine_eq] <;> omega) | exact Nat.le_of_ble_eq_true rfl)
local macro_rules | `(tactic| k_extra "go1") => `(tactic| first
  | (with_reducible show Rd.nLenS _ _ _; refine Rd.lenStr (by k_extra "sz") ?_)
  | (with_reducible show Rd.nLen _ _ _ _; first | refine Rd.lenS (by k_extra "row") ?_ | refine Rd.lenI (by k_extra "row") ?_ | refine Rd.lenR (by k_extra "row") ?_)
  | (with_reducible show L2.rSlS _ _ _ _ _; refine Rd.slS (by k_extra "sz") ?_)
  | (with_reducible show L2.tyV _ "list" _ _ ∧ _; refine Rd.tyL (by k_extra "sq") ?_)
  | (with_reducible show Rd.nAddS _ _ _ _; refine Rd.addS (by k_extra "sz") ?_)
  | (with_reducible show L2.rIsi _ _ _ _; first | with_reducible refine Rd.isiStr ?_ | with_reducible refine Rd.isiB ?_ | with_reducible refine Rd.isiI ?_ | with_reducible refine Rd.isiIB ?_ | (first | with_reducible refine Rx.askInt (by with_reducible assumption) ?_ | with_reducible refine Rx.askBl (by with_reducible assumption) ?_ | with_reducible refine Rx.askStr (by with_reducible assumption) ?_ | with_reducible refine Rx.askLst (by with_reducible assumption) ?_ | with_reducible refine Rx.askTup (by with_reducible assumption) ?_ | with_reducible refine Rx.askDct (by with_reducible assumption) ?_))
  | (with_reducible show L2.rIn _ _ _ _ _ _; first | refine Rd.inStrsY (by k_extra "row") ?_ | refine Rd.inStrsN (by k_extra "row") ?_ | refine Rd.inIntsY (by k_extra "row") ?_ | refine Rd.inIntsN (by k_extra "row") ?_)
  | with_reducible refine And.intro (Eq.refl L2.V.non) ?_ | with_reducible refine Rd.ifN ?_ | with_reducible refine Rd.ifR ?_ | with_reducible refine Rd.ifI ?_ | with_reducible refine Rd.ifT ?_)
local macro_rules | `(tactic| walk_at "go") => `(tactic| (walk_at "rd"; repeat (k_extra "go1"; walk_at "rd")))
local macro_rules | `(tactic| walk_at "ifs") => `(tactic| (walk_at "go"; repeat (first | (refine Rd.no (by decide) ?_; walk_at "go") | (refine Rd.yes (by decide) ?_; walk_at "go"))))

namespace W
open PySem PySem.Spec PyProof.Rows L2
section
variable {P : Program} {w : World} {K : PySem.W.Frag} {mg : Str → Option Value} {base : Heap}
/-! ### WayError.__init__ -/
abbrev sp_WayError_init (K : PySem.W.Frag) : Sp := Rx.spWe K
theorem ok_WayError_init (T : Txt K mg) : FnOk P w K mg base CX0 1 T.f_WayError_init T.fd_WayError_init ["self", "value"] (sp_WayError_init K) := by
  refine T.D_WayError_init.ok (CX := CX0) sc_WayError_init (fun vs H Q E h => ?_) (fun cdv A outer s H vs Q E hr h => ?_)
  · obtain ⟨a, C, v, rfl, _⟩ := h
    rfl
  · obtain ⟨a, C, v, rfl, oc, nv, ha, k⟩ := h
    refine ⟨_, (pss_one (ps_ost (pv 0) (pv 1))), ?_⟩
    exact ⟨_, rfl, _, rfl, a, C, rfl, oc, nv, .inl ⟨ha, fun dx n ne => k dx n ne⟩⟩

end
end W

namespace W
open PySem PySem.Spec PyProof.Rows L2
section
variable {P : Program} {w : World} {K : PySem.W.Frag} {mg : Str → Option Value} {base : Heap}
/-! ### is_integer of anything, own objects too -/
inductive IsX (K : PySem.W.Frag) (H : Hp) : V → Rx.Kd → Prop where
  | int (i : Int) : IsX K H (.int i) (.int i)
  | is {x : V} {k : Rx.Kd} (h : Rx.Is H x k) : IsX K H x k
  | ins {a C dx : Addr} {fs : List (Str × V)} (e : H a = some (.ins C dx fs)) (c : Cls K C) (o : OwnTy K C) (ki : PySem.W.mroIn K C (.type "int") = some false) (kb : PySem.W.mroIn K C (.type "bool") = some false) : IsX K H (.ref a) .dct
theorem kitOwn {C : Addr} {T : String} {r : Bool} (m : PySem.W.kitMeta T = true) (h : PySem.W.mroIn K C (.type T) = some r) : PySem.W.kitOne K (.ref C) (.type T) = some r := by
  show (if (Value.ref C == Value.type T) = true then some true else if PySem.W.kitMeta T = true then PySem.W.subIn K (.ref C) (.type T) else none) = some r
  rw [if_neg (by simp), if_pos m]
  exact h
theorem IsX.same {H H' : Hp} {x : V} {k : Rx.Kd} (s : Same H H') (h : IsX K H x k) : IsX K H' x k := by
  cases h with
  | int i => exact .int i
  | is h => exact .is (h.same s)
  | ins e c o ki kb => exact .ins (s _ _ e) c o ki kb
theorem IsX.askB {H : Hp} {x : V} {k : Rx.Kd} {Q : VK} (h : IsX K H x k) (q : Q (.bl k.isBl) H) : rIsi K [x, .ty "bool"] H Q := by
  cases h with
  | int i => exact Rx.askBl (.int i) q
  | is h => exact Rx.askBl h q
  | ins e c o ki kb => exact ⟨_, _, _, _, false, rfl, .ty "bool", .base (.ins e c o.ha o.hn o.htk o.hm), kitOwn (by decide +kernel) kb, q⟩
def sp_is_integer (K : PySem.W.Frag) : Sp := fun vs H Q _ => ∃ (x : V) (k : Rx.Kd), vs = [x] ∧ IsX K H x k ∧ Q (.bl k.isNum) H
theorem ok_is_integer (T : Txt K mg) : FnOk P w K mg base CX0 1 T.f_is_integer T.fd_is_integer ["value"] (sp_is_integer K) := by
  refine T.F_is_integer.ok sc_is_integer (fun vs H Q E h => ?_) (fun cdv A outer s H vs Q E hr h => ?_)
  · obtain ⟨x, kd, rfl, _⟩ := h
    rfl
  · obtain ⟨x, kd, rfl, hx, k⟩ := h
    refine ⟨_, (pss_one (ps_ret (pe_and (pe_callB (id := "isinstance") (r := rIsi K) call_isi (by rfl) T.n_isinstance (by decide +kernel) (pa_cons (pv 0) (pa_cons (pe_bltn (v := .ty "int") (u := .type "int") (by rfl) T.n_int (by decide +kernel) rfl) pa_nil))) (pe_one (pe_not (pe_callB (id := "isinstance") (r := rIsi K) call_isi (by rfl) T.n_isinstance (by decide +kernel) (pa_cons (pv 0) (pa_cons (pe_bltn (v := .ty "bool") (u := .type "bool") (by rfl) T.n_bool (by decide +kernel) rfl) pa_nil)))))))), ?_⟩
    walk_at "rd"
    cases hx with
    | int i =>
      walk_at "go"
      exact k
    | is hx =>
      walk_at "go"
      cases hx <;> first | (refine Rd.no Bool.false_ne_true ?_; exact k) | (refine Rd.yes rfl ?_; walk_at "go"; exact k)
    | ins e c o ki kb =>
      refine ⟨_, _, _, _, false, rfl, .ty "int", .base (.ins e c o.ha o.hn o.htk o.hm), kitOwn (by decide +kernel) ki, ?_⟩
      walk_at "rd"
      exact k

end
end W

namespace W
open PySem PySem.Spec PyProof.Rows L2
section
variable {P : Program} {w : World} {K : PySem.W.Frag} {mg : Str → Option Value} {base : Heap}
/-! ### the hand: cells (never written) and four ints; what is drawn lies below the number -/
def sp_l_hand (K : PySem.W.Frag) : Sp := fun vs H Q _ => ∃ (a : Addr) (ns : List Int), vs = [.ref a] ∧ SqL K H a (ns.map V.int) ∧ ∀ t c H', Tape H' t c → Same H H' → H t = none → H c = none → Q (.ref t) H'
def sp_l_draw (K : PySem.W.Frag) : Sp := fun vs H Q _ => ∃ (t c : Addr) (n : Int), vs = [.ref t, .int n] ∧ Tape H t c ∧ 0 < n ∧ n < 1073741824 ∧ ∀ r H', 0 ≤ r → r < n → Tape H' t c → Rd.But t H H' → Q (.int r) H'
theorem cut_ints (ns : List Int) (lo hi : Option Int) : ∃ ms : List Int, cutV (ns.map V.int) lo hi = ms.map V.int ∧ (∀ n : Nat, hi = some (n : Int) → ms.length ≤ n) := by
  refine ⟨(ns.drop (HT.sIx (ns.map V.int).length 0 lo)).take (HT.sIx (ns.map V.int).length (ns.map V.int).length hi - HT.sIx (ns.map V.int).length 0 lo), ?_, fun n e => ?_⟩
  · unfold cutV
    rw [List.map_take, List.map_drop]
  · subst e
    rw [HT.sIx_nat, List.length_take]
    omega
theorem ok_l_hand (T : Txt K mg) : FnOk P w K mg base CX0 1 T.f_l_hand T.fd_l_hand ["_law_script"] (sp_l_hand K) := by
  refine T.F_l_hand.ok sc_l_hand (fun vs H Q E h => ?_) (fun cdv A outer s H vs Q E hr h => ?_)
  · obtain ⟨a, ns, rfl, _⟩ := h
    rfl
  · obtain ⟨a, ns, rfl, hS, k⟩ := h
    refine ⟨_, (pss_cons (ps_setLc (i := 1) (own := [("_law_cell", 2)]) (g := gName 2) (tt := tYes) rfl sc_l_hand.nd rfl rfl (sw_true rfl rfl rfl (by decide +kernel)) (pi_list (pe_slice (r := rSlL K) sl_list (pv 0) po_none (po_some pe_int))) (blkOk_by (own := [("_law_cell", 2)]) (N := ["_law_script", "_law_cells", "_law_cell"]) (sc := defScope s_l_hand) (by decide +kernel)) (fun _ _ _ _ _ => (pg_name (i := 2) sc_l_hand.nd rfl (.inl rfl))) (fun _ _ _ _ _ => pts_nil) (fun _ _ _ _ _ => (pe_callB (id := "abs") (r := _) Rd.c_abs (by rfl) T.n_abs (by decide +kernel) (pa_cons (pe_callTy (T := "int") (r := _) Rd.c_int (by rfl) T.n_int (by decide +kernel) (pa_cons (pv 2) pa_nil)) pa_nil))))
  (pss_one (ps_ret (pe_lst (pa_cons (pv 1) (pa_cons pe_int (pa_cons pe_int (pa_cons (pe_op op_add pe_int (pe_callB (id := "len") (r := Rd.nLen K) Rd.c_len (by rfl) T.n_len (by decide +kernel) (pa_cons (pv 1) pa_nil))) (pa_cons pe_int pa_nil))))))))), ?_⟩
    walk_at "rd"
    obtain ⟨ms, em, lm⟩ := cut_ints ns none (some 63)
    have l63 := lm 63 rfl
    refine Rd.slL hS (Rd.new fun p G np gp s1 => ?_)
    rw [em] at gp
    walk_at "rd"
    refine ⟨⟨_, .of gp⟩, Rd.lcS walk_list (fun _ s => .of (s _ _ gp)) (fun D i acc _ => ∃ us : List Int, acc = us.map V.int ∧ us.length = i) (fun _ _ _ _ _ => ⟨[], rfl, rfl⟩) ?_ ?_⟩
    · rintro D i x G2 _ acc nD hi hD sm ⟨us, rfl, ul⟩ ⟨rfl, hx⟩
      obtain ⟨v, hv, rfl⟩ := Rd.map_get hx
      rw [List.length_map] at hi
      walk_at "rd"
      refine ⟨rfl, ?_⟩
      walk_at "rd"
      refine Rd.lcPush hD nD sm (by rw [List.length_map, ul, sizeLine_eq]; omega) fun G3 g3 off3 => ?_
      exact ⟨us ++ [(v.natAbs : Int)], by rw [List.map_append]; rfl, by rw [List.length_append, ul]; rfl⟩
    · rintro c acc G2 nc hc s2 ⟨us, rfl, ul⟩
      rw [List.length_map] at ul
      walk_at "rd"
      refine Rd.len (.inl (.of hc)) ?_
      rw [List.length_map]
      walk_at "rd"
      refine ⟨Nat.le_of_ble_eq_true rfl, Rd.new fun t G3 ht gt s3 => ?_⟩
      have tc : c ≠ t := ne_of_none hc ht
      have s12 := s1.trans s2
      exact k t c _ ⟨us, 0, 0, 1 + (us.length : Int), 0, tc.symm, gt, s3 _ _ hc, by decide, by omega, by omega, by omega⟩ (s12.trans s3) (s12.free ht) (s1.free nc)
theorem ok_l_draw (T : Txt K mg) : FnOk P w K mg base CX0 1 T.f_l_draw T.fd_l_draw ["_law_hand_here", "_law_many"] (sp_l_draw K) := by
  refine T.F_l_draw.ok sc_l_draw (fun vs H Q E h => ?_) (fun cdv A outer s H vs Q E hr h => ?_)
  · obtain ⟨t, c, n, rfl, _⟩ := h
    rfl
  · obtain ⟨t, c, n, rfl, ⟨ns, x, y, z, u, tc, h1, h2, x0, x1, z0, z1⟩, n0, n1, k⟩ := h
    refine ⟨_, (C8.pss_cut (ps_if (PW.pt (pw_and (pt_cmpR op_eq (pe_ix (r := rIxL K) ix_list (pv 0) pe_int (fun _ _ => rfl)) pe_int (nomark _)) (pw_and1 (pt_cmpR op_lt (pe_ix (r := rIxL K) ix_list (pv 0) pe_int (fun _ _ => rfl)) (pe_callB (id := "len") (r := Rd.nLen K) Rd.c_len (by rfl) T.n_len (by decide +kernel) (pa_cons (pe_ix ix_list (pv 0) pe_int (fun _ _ => rfl)) pa_nil)) (nomark _)))))
  (pss_cons (ps_set (i := 2) sc_l_draw.nd rfl (.inl rfl) (pe_ix (r := rIxL K) ix_list (pe_ix ix_list (pv 0) pe_int (fun _ _ => rfl)) (pe_ix (r := rIxL K) ix_list (pv 0) pe_int (fun _ _ => rfl)) (fun _ _ => rfl)))
  (pss_cons (ps_asg (pe_op op_add (pe_ix (r := rIxL K) ix_list (pv 0) pe_int (fun _ _ => rfl)) pe_int) (pg_sub (pv 0) pe_int set_list))
  (pss_cons (ps_asg (pe_op op_mod (pe_callTy (T := "int") (r := _) Rd.c_int (by rfl) T.n_int (by decide +kernel) (pa_cons (pe_op op_add (pe_op op_add (pe_op op_mul (pe_ix (r := rIxL K) ix_list (pv 0) pe_int (fun _ _ => rfl)) pe_int) (pv 2)) pe_int) pa_nil)) pe_int) (pg_sub (pv 0) pe_int set_list))
  (pss_one (ps_if (pt_cmpR op_ge (pv 2) (pe_op op_pow pe_int pe_int) (nomark _))
  (pss_one (ps_asg (pv 2) (pg_sub (pv 0) pe_int set_list)))
  pss_nil)))))
  pss_nil)
  (pss_cons (ps_if (pt_cmpR op_gt (pe_ix (r := rIxL K) ix_list (pv 0) pe_int (fun _ _ => rfl)) pe_int (nomark _))
  (pss_cons (ps_set (i := 3) sc_l_draw.nd rfl (.inl rfl) (pe_op op_mod (pe_callTy (T := "int") (r := _) Rd.c_int (by rfl) T.n_int (by decide +kernel) (pa_cons (pe_ix (r := rIxL K) ix_list (pv 0) pe_int (fun _ _ => rfl)) pa_nil)) (pv 1)))
  (pss_cons (ps_asg (pe_op op_fdiv (pe_ix (r := rIxL K) ix_list (pv 0) pe_int (fun _ _ => rfl)) (pv 1)) (pg_sub (pv 0) pe_int set_list))
  (pss_one (ps_ret (pv 3)))))
  pss_nil)
  (pss_cons (ps_asg (pe_op op_add (pe_ix (r := rIxL K) ix_list (pv 0) pe_int (fun _ _ => rfl)) pe_int) (pg_sub (pv 0) pe_int set_list))
  (pss_cons (ps_set (i := 4) sc_l_draw.nd rfl (.inl rfl) (pe_op op_mod (pe_callTy (T := "int") (r := _) Rd.c_int (by rfl) T.n_int (by decide +kernel) (pa_cons (pe_op op_mul (pe_callTy (T := "int") (r := _) Rd.c_int (by rfl) T.n_int (by decide +kernel) (pa_cons (pe_op op_add (pe_ix (r := rIxL K) ix_list (pv 0) pe_int (fun _ _ => rfl)) (pe_op op_mul pe_int (pe_ix (r := rIxL K) ix_list (pv 0) pe_int (fun _ _ => rfl)))) pa_nil)) pe_int) pa_nil)) pe_int))
  (pss_cons (ps_set (i := 4) sc_l_draw.nd rfl (.inl rfl) (pe_op op_mod (pe_callTy (T := "int") (r := _) Rd.c_int (by rfl) T.n_int (by decide +kernel) (pa_cons (pe_op op_mul (pv 4) (pe_op op_add (pe_op op_fdiv (pv 4) pe_int) pe_int)) pa_nil)) pe_int))
  (pss_cons (ps_set (i := 4) sc_l_draw.nd rfl (.inl rfl) (pe_op op_mod (pe_callTy (T := "int") (r := _) Rd.c_int (by rfl) T.n_int (by decide +kernel) (pa_cons (pe_op op_mul (pv 4) (pe_op op_add (pe_op op_fdiv (pv 4) pe_int) pe_int)) pa_nil)) pe_int))
  (pss_one (ps_ret (pe_op op_mod (pe_callTy (T := "int") (r := _) Rd.c_int (by rfl) T.n_int (by decide +kernel) (pa_cons (pe_op op_fdiv (pv 4) pe_int) pa_nil)) (pv 1)))))))))), ?_⟩
    walk_at "rd"
    refine Rd.cut (fun σ G => ∃ (x y z : Int) (o2 o3 o4 : Option V), σ = [some (.ref t), some (.int n), o2, o3, o4] ∧ G t = some (.lst [.ref c, .int x, .int y, .int z, .int u]) ∧ 0 ≤ x ∧ x ≤ ns.length ∧ 0 ≤ z ∧ z < 2147483647 ∧ ∀ b, b ≠ t → G b = H b) ?_ ?_
    · walk_at "rd"
      refine Rd.ixL (.of h1) (atI_nat (j := 2) rfl) ?_
      walk_at "rd"
      refine ite2 (fun q => ?_) (fun q => ?_)
      · walk_at "rd"
        refine Rd.ixL (.of h1) (atI_nat (j := 1) rfl) ?_
        walk_at "rd"
        refine Rd.ixL (.of h1) (atI_nat (j := 0) rfl) ?_
        walk_at "rd"
        refine Rd.len (.inl (.of h2)) ?_
        rw [List.length_map]
        walk_at "rd"
        refine ite2 (fun q2 => ?_) (fun q2 => ?_)
        · walk_at "rd"
          refine Rd.ixL (.of h1) (atI_nat (j := 0) rfl) ?_
          walk_at "rd"
          refine Rd.ixL (.of h1) (atI_nat (j := 1) rfl) ?_
          have hx : x.toNat < ns.length := by omega
          refine Rd.ixL (.of h2) (Rd.atI_of x0 (Rd.map_int hx)) ?_
          walk_at "rd"
          refine Rd.ixL (.of h1) (atI_nat (j := 1) rfl) ?_
          walk_at "rd"
          refine Rd.setG h1 (show ixN 5 1 = some 1 by decide) rfl fun G g1 gb => ?_
          walk_at "rd"
          refine Rd.ixL (.of g1) (atI_nat (j := 3) rfl) ?_
          walk_at "rd"
          refine Rd.iC (.inr (by decide)) ?_
          walk_at "rd"
          refine Rd.iC (by decide) ?_
          generalize hM : (z * 69621 + ns[x.toNat] + 11) % 2147483629 = M
          have M0 : 0 ≤ M := by rw [← hM]; exact Int.emod_nonneg _ (by decide)
          have M1 : M < 2147483629 := by rw [← hM]; exact Int.emod_lt_of_pos _ (by decide)
          walk_at "rd"
          refine Rd.setG g1 (show ixN 5 3 = some 3 by decide) rfl fun G2 g2 gb2 => ?_
          have off2 : ∀ b, b ≠ t → G2 b = H b := fun b hb => (gb2 b hb).trans (gb b hb)
          walk_at "rd"
          refine Rd.iC ⟨by decide, by decide, by decide⟩ ?_
          walk_at "rd"
          refine ite2 (fun q3 => ?_) (fun q3 => ?_)
          · walk_at "rd"
            refine Rd.setG g2 (show ixN 5 2 = some 2 by decide) rfl fun G3 g3 gb3 => ?_
            walk_at "rd"
            exact ⟨x + 1, _, M, _, _, _, rfl, g3, by omega, by omega, M0, by omega, fun b hb => (gb3 b hb).trans (off2 b hb)⟩
          · walk_at "rd"
            exact ⟨x + 1, y, M, _, _, _, rfl, g2, by omega, by omega, M0, by omega, off2⟩
        · walk_at "rd"
          exact ⟨x, y, z, _, _, _, rfl, h1, x0, x1, z0, z1, fun b hb => rfl⟩
      · walk_at "rd"
        exact ⟨x, y, z, _, _, _, rfl, h1, x0, x1, z0, z1, fun b hb => rfl⟩
    · clear h1 x0 x1 z0 z1 x y z
      rintro _ G ⟨x, y, z, o2, o3, o4, rfl, g1, x0, x1, z0, z1, off⟩
      have g2 : G c = some (.lst (ns.map V.int)) := by rw [off _ tc.symm]; exact h2
      walk_at "rd"
      refine Rd.ixL (.of g1) (atI_nat (j := 2) rfl) ?_
      walk_at "rd"
      refine ite2 (fun q => ?_) (fun q => ?_)
      · walk_at "rd"
        refine Rd.ixL (.of g1) (atI_nat (j := 2) rfl) ?_
        walk_at "rd"
        refine Rd.iC n0 ?_
        walk_at "rd"
        refine Rd.ixL (.of g1) (atI_nat (j := 2) rfl) ?_
        walk_at "rd"
        refine Rd.iC ⟨n0, n1⟩ ?_
        walk_at "rd"
        refine Rd.setG g1 (show ixN 5 2 = some 2 by decide) rfl fun G3 g3 gb3 => ?_
        walk_at "rd"
        exact k _ _ (Int.emod_nonneg _ (by omega)) (Int.emod_lt_of_pos _ n0) ⟨ns, x, _, z, u, tc, g3, by rw [gb3 _ tc.symm]; exact g2, x0, x1, z0, z1⟩ (fun b o hb e => by rw [gb3 b hb, off b hb]; exact e)
      · walk_at "rd"
        refine Rd.ixL (.of g1) (atI_nat (j := 4) rfl) ?_
        walk_at "rd"
        refine Rd.setG g1 (show ixN 5 4 = some 4 by decide) rfl fun G3 g3 gb3 => ?_
        have e2 : G3 c = some (.lst (ns.map V.int)) := by rw [gb3 _ tc.symm]; exact g2
        walk_at "rd"
        refine Rd.ixL (.of g3) (atI_nat (j := 3) rfl) ?_
        walk_at "rd"
        refine Rd.ixL (.of g3) (atI_nat (j := 4) rfl) ?_
        walk_at "rd"
        refine Rd.iC (.inl ⟨by decide, by decide⟩) ?_
        walk_at "rd"
        refine Rd.iC (.inr (by decide)) ?_
        walk_at "rd"
        refine Rd.iC (by decide) ?_
        generalize hM : (z + 7919 * (u + 1)) * 48271 % 2147483647 = M
        have M0 : 0 ≤ M := by rw [← hM]; exact Int.emod_nonneg _ (by decide)
        have M1 : M < 2147483647 := by rw [← hM]; exact Int.emod_lt_of_pos _ (by decide)
        walk_at "rd"
        refine Rd.iC ⟨by decide, by decide⟩ ?_
        walk_at "rd"
        refine Rd.iC (.inl ⟨by omega, by omega⟩) ?_
        walk_at "rd"
        refine Rd.iC (by decide) ?_
        generalize hN : M * (M / 1009 + 69621) % 2147483647 = N
        have N0 : 0 ≤ N := by rw [← hN]; exact Int.emod_nonneg _ (by decide)
        have N1 : N < 2147483647 := by rw [← hN]; exact Int.emod_lt_of_pos _ (by decide)
        walk_at "rd"
        refine Rd.iC ⟨by decide, by decide⟩ ?_
        walk_at "rd"
        refine Rd.iC (.inl ⟨by omega, by omega⟩) ?_
        walk_at "rd"
        refine Rd.iC (by decide) ?_
        walk_at "rd"
        refine Rd.iC ⟨by decide, by decide⟩ ?_
        walk_at "rd"
        refine Rd.iC n0 ?_
        walk_at "rd"
        exact k _ _ (Int.emod_nonneg _ (by omega)) (Int.emod_lt_of_pos _ n0) ⟨ns, x, y, z, u + 1, tc, g3, e2, x0, x1, z0, z1⟩ (fun b o hb e => by rw [gb3 b hb, off b hb]; exact e)
theorem drawR {K : PySem.W.Frag} {H : Hp} {t c : Addr} {n : Int} {Q : VK} {E : XK} (T : Tape H t c) (h0 : 0 < n) (h1 : n < 1073741824) (k : ∀ r H', 0 ≤ r → r < n → Tape H' t c → Rd.But t H H' → Q (.int r) H') : sp_l_draw K [.ref t, .int n] H Q E := ⟨t, c, n, rfl, T, h0, h1, k⟩

end
end W

namespace W
open PySem PySem.Spec PyProof.Rows L2
section
variable {P : Program} {w : World} {K : PySem.W.Frag} {mg : Str → Option Value} {base : Heap}
open Mr (Rk joined joined_lt metF leftF rightF topF)
/-! ### told reckonings: tables -/
def rowV (f : Nat → Nat) (n : Nat) : List V := ((List.range n).map fun j : Nat => ((f j : Nat) : Int)).map V.int
theorem rowV_len (f : Nat → Nat) (n : Nat) : (rowV f n).length = n := by unfold rowV; rw [List.length_map, List.length_map, List.length_range]
theorem rowV_get {f : Nat → Nat} {n j : Nat} (h : j < n) : (rowV f n)[j]? = some (.int (f j : Nat)) := by
  unfold rowV
  rw [List.getElem?_map, List.getElem?_map, List.getElem?_range h]
  rfl
theorem rowV_snoc (f : Nat → Nat) (n : Nat) : rowV f n ++ [.int (f n : Nat)] = rowV f (n + 1) := by
  unfold rowV
  rw [List.range_succ, List.map_append, List.map_append]
  rfl
theorem rowV_inv {f : Nat → Nat} {n j : Nat} {x : V} (h : (rowV f n)[j]? = some x) : j < n ∧ x = .int (f j : Nat) := by
  have l := (List.getElem?_eq_some_iff.mp h).1
  rw [rowV_len] at l
  rw [rowV_get l] at h
  exact ⟨l, (Option.some.inj h).symm⟩
theorem rowV_congr {f g : Nat → Nat} {n : Nat} (h : ∀ j, j < n → f j = g j) : rowV f n = rowV g n := by
  unfold rowV
  rw [List.map_map, List.map_map]
  refine List.map_congr_left fun j m => ?_
  show V.int (f j : Nat) = V.int (g j : Nat)
  rw [h j (List.mem_range.mp m)]
/-- a table stands at a: rows of either kind, n of them, each of n numbers -/
def Tbl (K : PySem.W.Frag) (H : Hp) (a : Addr) (n : Nat) (F : Nat → Nat → Nat) : Prop := ∃ rs : List Addr, Ru.SqR K H a (rs.map V.ref) ∧ rs.length = n ∧ ∀ i r, rs[i]? = some r → Ru.SqR K H r (rowV (F i) n)
/-- .. tuples -/
def TblT (K : PySem.W.Frag) (H : Hp) (a : Addr) (n : Nat) (F : Nat → Nat → Nat) : Prop := ∃ rs : List Addr, SqT K H a (rs.map V.ref) ∧ rs.length = n ∧ ∀ i r, rs[i]? = some r → SqT K H r (rowV (F i) n)
/-- .. lists, in the heap -/
def TblL (H : Hp) (a : Addr) (n : Nat) (F : Nat → Nat → Nat) : Prop := ∃ rs : List Addr, H a = some (.lst (rs.map V.ref)) ∧ rs.length = n ∧ ∀ i r, rs[i]? = some r → H r = some (.lst (rowV (F i) n))
theorem Tbl.same {K : PySem.W.Frag} {H H' : Hp} {a : Addr} {n : Nat} {F : Nat → Nat → Nat} (h : Tbl K H a n F) (s : Same H H') : Tbl K H' a n F := let ⟨rs, h1, h2, h3⟩ := h; ⟨rs, h1.same s, h2, fun i r e => (h3 i r e).same s⟩
theorem TblT.same {K : PySem.W.Frag} {H H' : Hp} {a : Addr} {n : Nat} {F : Nat → Nat → Nat} (h : TblT K H a n F) (s : Same H H') : TblT K H' a n F := let ⟨rs, h1, h2, h3⟩ := h; ⟨rs, Ru.same_tup s h1, h2, fun i r e => Ru.same_tup s (h3 i r e)⟩
theorem TblL.same {H H' : Hp} {a : Addr} {n : Nat} {F : Nat → Nat → Nat} (h : TblL H a n F) (s : Same H H') : TblL H' a n F := let ⟨rs, h1, h2, h3⟩ := h; ⟨rs, s _ _ h1, h2, fun i r e => s _ _ (h3 i r e)⟩
theorem TblT.any {K : PySem.W.Frag} {H : Hp} {a : Addr} {n : Nat} {F : Nat → Nat → Nat} (h : TblT K H a n F) : Tbl K H a n F := let ⟨rs, h1, h2, h3⟩ := h; ⟨rs, .inr h1, h2, fun i r e => .inr (h3 i r e)⟩
theorem TblL.any {K : PySem.W.Frag} {H : Hp} {a : Addr} {n : Nat} {F : Nat → Nat → Nat} (h : TblL H a n F) : Tbl K H a n F := let ⟨rs, h1, h2, h3⟩ := h; ⟨rs, .inl (.of h1), h2, fun i r e => .inl (.of (h3 i r e))⟩
theorem Tbl.len {K : PySem.W.Frag} {H : Hp} {a : Addr} {n : Nat} {F : Nat → Nat → Nat} (h : Tbl K H a n F) {Q : VK} (q : Q (.int (n : Nat)) H) : Rd.nLen K [.ref a] H Q := by
  obtain ⟨rs, h1, h2, _⟩ := h
  refine Rd.len h1 ?_
  rw [List.length_map, h2]
  exact q
theorem ixRow {K : PySem.W.Frag} {H : Hp} {a : Addr} {xs : List V} {i : Int} {v : V} {Q : VK} (h : Ru.SqR K H a xs) (e : atI xs i = some v) (q : Q v H) : rIxL K (.ref a) (.int i) H Q ∨ rIxT K (.ref a) (.int i) H Q := h.elim (fun h => .inl (Rd.ixL h e q)) fun h => .inr (Rd.ixT h e q)
theorem Tbl.one {K : PySem.W.Frag} {H : Hp} {a : Addr} {n i : Nat} {F : Nat → Nat → Nat} {Q : VK} (h : Tbl K H a n F) (hi : i < n) (k : ∀ r, Ru.SqR K H r (rowV (F i) n) → Q (.ref r) H) : rIxL K (.ref a) (.int (i : Nat)) H Q ∨ rIxT K (.ref a) (.int (i : Nat)) H Q := by
  obtain ⟨rs, h1, h2, h3⟩ := h
  have e := List.getElem?_eq_getElem (show i < rs.length by omega)
  exact ixRow h1 (atI_nat (Rd.map_ref (by omega))) (k _ (h3 i _ e))
theorem rowIx {K : PySem.W.Frag} {H : Hp} {r : Addr} {n j : Nat} {f : Nat → Nat} {Q : VK} (h : Ru.SqR K H r (rowV f n)) (hj : j < n) (k : Q (.int (f j : Nat)) H) : rIxL K (.ref r) (.int (j : Nat)) H Q ∨ rIxT K (.ref r) (.int (j : Nat)) H Q := ixRow h (atI_nat (rowV_get hj)) k
theorem TblT.one {K : PySem.W.Frag} {H : Hp} {a : Addr} {n i : Nat} {F : Nat → Nat → Nat} {Q : VK} (h : TblT K H a n F) (hi : i < n) (k : ∀ r, SqT K H r (rowV (F i) n) → Q (.ref r) H) : rIxT K (.ref a) (.int (i : Nat)) H Q := by
  obtain ⟨rs, h1, h2, h3⟩ := h
  have e := List.getElem?_eq_getElem (show i < rs.length by omega)
  exact Rd.ixT h1 (atI_nat (Rd.map_ref (by omega))) (k _ (h3 i _ e))
theorem TblL.one {K : PySem.W.Frag} {H : Hp} {a : Addr} {n i : Nat} {F : Nat → Nat → Nat} {Q : VK} (h : TblL H a n F) (hi : i < n) (k : ∀ r, SqL K H r (rowV (F i) n) → Q (.ref r) H) : rIxL K (.ref a) (.int (i : Nat)) H Q := by
  obtain ⟨rs, h1, h2, h3⟩ := h
  have e := List.getElem?_eq_getElem (show i < rs.length by omega)
  exact Rd.ixL (.of h1) (atI_nat (Rd.map_ref (by omega))) (k _ (.of (h3 i _ e)))
theorem rowT {K : PySem.W.Frag} {H : Hp} {r : Addr} {n j : Nat} {f : Nat → Nat} {Q : VK} (h : SqT K H r (rowV f n)) (hj : j < n) (k : Q (.int (f j : Nat)) H) : rIxT K (.ref r) (.int (j : Nat)) H Q := Rd.ixT h (atI_nat (rowV_get hj)) k
theorem rowL {K : PySem.W.Frag} {H : Hp} {r : Addr} {n j : Nat} {f : Nat → Nat} {Q : VK} (h : SqL K H r (rowV f n)) (hj : j < n) (k : Q (.int (f j : Nat)) H) : rIxL K (.ref r) (.int (j : Nat)) H Q := Rd.ixL h (atI_nat (rowV_get hj)) k
/-- t[i][j], j a name -/
theorem Tbl.two {K : PySem.W.Frag} {H : Hp} {a : Addr} {n i j : Nat} {F : Nat → Nat → Nat} {σ : L2.St} {te : TE} {Q : VK} (h : Tbl K H a n F) (hi : i < n) (hj : j < n) (e : ∀ Q' : VK, Q' (.int (j : Nat)) H → te σ H Q') (k : Q (.int (F i j : Nat)) H) :
    rIxL K (.ref a) (.int (i : Nat)) H (fun x H1 => te σ H1 fun y H2 => rIxL K x y H2 Q ∨ rIxT K x y H2 Q) ∨ rIxT K (.ref a) (.int (i : Nat)) H (fun x H1 => te σ H1 fun y H2 => rIxL K x y H2 Q ∨ rIxT K x y H2 Q) :=
  h.one hi fun r hr => e _ (rowIx hr hj k)
theorem TblT.two {K : PySem.W.Frag} {H : Hp} {a : Addr} {n i j : Nat} {F : Nat → Nat → Nat} {σ : L2.St} {te : TE} {Q : VK} (h : TblT K H a n F) (hi : i < n) (hj : j < n) (e : ∀ Q' : VK, Q' (.int (j : Nat)) H → te σ H Q') (k : Q (.int (F i j : Nat)) H) :
    rIxT K (.ref a) (.int (i : Nat)) H (fun x H1 => te σ H1 fun y H2 => rIxT K x y H2 Q) := h.one hi fun r hr => e _ (rowT hr hj k)
theorem TblL.two {K : PySem.W.Frag} {H : Hp} {a : Addr} {n i j : Nat} {F : Nat → Nat → Nat} {σ : L2.St} {te : TE} {Q : VK} (h : TblL H a n F) (hi : i < n) (hj : j < n) (e : ∀ Q' : VK, Q' (.int (j : Nat)) H → te σ H Q') (k : Q (.int (F i j : Nat)) H) :
    rIxL K (.ref a) (.int (i : Nat)) H (fun x H1 => te σ H1 fun y H2 => rIxL K x y H2 Q) := h.one hi fun r hr => e _ (rowL hr hj k)
theorem vr {σ : L2.St} {H : Hp} {i : Nat} {v : V} (e : σ[i]? = some (some v)) : ∀ Q : VK, Q v H → tVar i σ H Q := fun _ q => ⟨v, e, q⟩
theorem shapedT_i (ns : List Int) : SeqAt.shaped (.tuple (ns.map PyData.int)) = true := by
  have h1 : PyData.canLay0 (.tuple (ns.map PyData.int)) = true := Rd.canLay_ints ns
  have h2 : PyData.depth (.tuple (ns.map PyData.int)) = 1 := by
    show PyData.depthAll (ns.map PyData.int) + 1 = 1
    rw [Rd.depth_ints]
  unfold SeqAt.shaped
  rw [h1, h2]
  rfl
theorem neTups {K : PySem.W.Frag} {H : Hp} {a b : Addr} {ns ms : List Int} {Q : VK} (h1 : SqT K H a (ns.map V.int)) (h2 : SqT K H b (ms.map V.int)) (q : Q (.bl (!decide (ns = ms))) H) : rNeD K (.ref a) (.ref b) H Q := by
  refine ⟨_, _, .tup h1 (Rd.dpAll_ints ns), .tup h2 (Rd.dpAll_ints ms), shapedT_i ns, shapedT_i ms, ?_⟩
  show Q (.bl (!PyData.eqvAll (ns.map PyData.int) (ms.map PyData.int))) H
  rw [Rd.eqv_ints]
  exact q

end
end W

namespace W
open PySem PySem.Spec PyProof.Rows L2
section
variable {P : Program} {w : World} {K : PySem.W.Frag} {mg : Str → Option Value} {base : Heap}
open Mr (Rk joined joined_lt metF leftF rightF topF)
/-! ### told reckonings: what is checked (right ones) -/
def sp_is_square (K : PySem.W.Frag) : Sp := fun vs H Q _ => ∃ (a : Addr) (n : Nat) (F : Nat → Nat → Nat), vs = [.ref a, .int (n : Nat)] ∧ Tbl K H a n F ∧ (∀ i j, i < n → j < n → F i j < n) ∧ n ≤ 16 ∧ ∀ H', Same H H' → Q (.bl true) H'
theorem ok_is_square (T : Txt K mg) : FnOk P w K mg base CX0 2 T.f_is_square T.fd_is_square ["rows", "size"] (sp_is_square K) := by
  refine T.F_is_square.ok sc_is_square (fun vs H Q E h => ?_) (fun cdv A outer s H vs Q E hr h => ?_)
  · obtain ⟨a, n, F, rfl, _⟩ := h
    rfl
  · obtain ⟨a, n, F, rfl, hT, hF, n16, k⟩ := h
    refine ⟨_, (pss_cons (ps_if (PW.pt (pw_or (pt_not (pt_val (pe_callB (id := "isinstance") (r := rIsiT K) call_isiT (by rfl) T.n_isinstance (by decide +kernel) (pa_cons (pv 0) (pa_cons (pe_tup (pa_cons (pe_bltn (v := .ty "list") (u := .type "list") (by rfl) T.n_list (by decide +kernel) rfl) (pa_cons (pe_bltn (v := .ty "tuple") (u := .type "tuple") (by rfl) T.n_tuple (by decide +kernel) rfl) pa_nil))) pa_nil))))) (pw_or1 (pt_cmpR op_ne (pe_callB (id := "len") (r := Rd.nLen K) Rd.c_len (by rfl) T.n_len (by decide +kernel) (pa_cons (pv 0) pa_nil)) (pv 1) (nomark _)))))
  (pss_one (ps_ret pe_bl))
  pss_nil)
  (pss_cons (ps_for PassesOwn.never rfl (Ru.pi_or (pi_list (pv 0)) (pi_tup (pv 0))) (pg_name (i := 2) sc_is_square.nd rfl (.inl rfl))
  (pss_cons (ps_if (PW.pt (pw_or (pt_not (pt_val (pe_callB (id := "isinstance") (r := rIsiT K) call_isiT (by rfl) T.n_isinstance (by decide +kernel) (pa_cons (pv 2) (pa_cons (pe_tup (pa_cons (pe_bltn (v := .ty "list") (u := .type "list") (by rfl) T.n_list (by decide +kernel) rfl) (pa_cons (pe_bltn (v := .ty "tuple") (u := .type "tuple") (by rfl) T.n_tuple (by decide +kernel) rfl) pa_nil))) pa_nil))))) (pw_or1 (pt_cmpR op_ne (pe_callB (id := "len") (r := Rd.nLen K) Rd.c_len (by rfl) T.n_len (by decide +kernel) (pa_cons (pv 2) pa_nil)) (pv 1) (nomark _)))))
  (pss_one (ps_ret pe_bl))
  pss_nil)
  (pss_one (ps_if (pt_not (pt_val (pe_callB (id := "all") (r := rAll K) (cr_all rfl) (by rfl) T.n_all (by decide +kernel) (pa_cons (pe_lc (own := [("worth", 3)]) (g := gName 3) (tt := tYes) rfl sc_is_square.nd (Ru.pi_or (pi_list (pv 2)) (pi_tup (pv 2))) (blkOk_by (own := [("worth", 3)]) (N := ["rows", "size", "row", "worth"]) (sc := defScope s_is_square) (by decide +kernel)) (fun _ _ _ _ _ => (pg_name (i := 3) sc_is_square.nd rfl (.inl rfl))) (fun _ _ _ _ _ => pts_nil) (fun _ _ _ _ _ => (pe_and (pe_call (ok_is_integer T) (hr.mono (by decide)) rfl T.g_is_integer T.F_is_integer.kp T.b_is_integer .nil pass0 (pa_cons (pv 3) pa_nil)) (pe_one (pe_chain op_le op_lt pe_int (pv 3) (pv 1)))))) pa_nil))))
  (pss_one (ps_ret pe_bl))
  pss_nil))))
  (pss_one (ps_ret pe_bl)))), ?_⟩
    obtain ⟨rs, hR, rl, hr0⟩ := id hT
    walk_at "rd"
    refine ⟨Nat.le_of_ble_eq_true rfl, Rd.new fun p G hp gp sG => ?_⟩
    walk_at "rd"
    refine Ru.isRow (hR.same sG) gp ?_
    walk_at "rd"
    refine (hT.same sG).len ?_
    walk_at "rd"
    refine Rd.yes rfl ?_
    walk_at "rd"
    refine Ru.for_row (a := a) (xs := rs.map V.ref) (fun Q q => ?_) (fun i σ H' => ∃ (o2 : Option V), σ = [some (.ref a), some (.int (n : Nat)), o2, none] ∧ Same H H') hR ⟨_, rfl, sG⟩ (fun i σ H' _ ⟨_, _, s⟩ => s) ?_ ?_
    · walk_at "rd"
      exact q
    · rintro i x _ H1 hx ⟨o2, rfl, s1⟩
      obtain ⟨r, hri, rfl⟩ := Rd.map_refG hx
      have il := (List.getElem?_eq_some_iff.mp hri).1
      have gr := (hr0 i r hri).same s1
      walk_at "rd"
      refine ⟨Nat.le_of_ble_eq_true rfl, Rd.new fun p2 G2 hp2 gp2 sG2 => ?_⟩
      walk_at "rd"
      refine Ru.isRow (gr.same sG2) gp2 ?_
      walk_at "rd"
      refine Rd.len (gr.same sG2) ?_
      rw [rowV_len]
      walk_at "rd"
      refine Rd.yes rfl ?_
      walk_at "rd"
      refine Rd.lcRow (a := r) (fun R q => ?_) (gr.same sG2) (fun D i acc Hc => acc = (List.replicate i true).map V.bl) (fun _ _ _ _ _ => rfl) ?_ ?_
      · walk_at "rd"
        exact q
      · rintro D j x G3 acc nD hj hD sm rfl hx2
        obtain ⟨jn, rfl⟩ := rowV_inv hx2
        have fl := hF i j (by omega) jn
        walk_at "rd"
        refine ⟨rfl, ?_⟩
        walk_at "rd"
        refine ⟨_, _, rfl, .int _, ?_⟩
        walk_at "rd"
        refine Rd.yes rfl ?_
        walk_at "rd"
        refine Rd.yes (by omega) ?_
        walk_at "rd"
        rw [decide_eq_true (by omega)]
        refine Rd.lcPush hD nD sm (by rw [List.length_map, List.length_replicate, sizeLine_eq]; omega) fun G _ _ => ?_
        rw [List.replicate_succ', List.map_append]
        rfl
      · rintro D acc G3 nD hD s3 rfl
        walk_at "rd"
        refine Rd.all (.of hD) ?_
        rw [rowV_len, show (List.replicate n true).all id = true by simp]
        walk_at "rd"
        exact ⟨_, rfl, (s1.trans sG2).trans s3⟩
    · rintro _ H1 ⟨o2, rfl, s1⟩
      walk_at "rd"
      exact k _ s1
def sp_check_size (K : PySem.W.Frag) : Sp := fun vs H Q _ => ∃ (a b : Addr) (n z o : Nat) (J M : Nat → Nat → Nat), vs = [.ref a, .ref b, .int (z : Nat), .int (o : Nat)] ∧ Tbl K H a n J ∧ Tbl K H b n M ∧ Rk n J M z o ∧ ∀ v H', Same H H' → Q v H'
def sp_check_singles (K : PySem.W.Frag) : Sp := fun vs H Q _ => ∃ (a b : Addr) (n z o : Nat) (J M : Nat → Nat → Nat), vs = [.ref a, .ref b, .int (z : Nat), .int (o : Nat)] ∧ Tbl K H a n J ∧ Tbl K H b n M ∧ Rk n J M z o ∧ ∀ v H', Same H H' → Q v H'
def sp_check_swaps (K : PySem.W.Frag) : Sp := fun vs H Q _ => ∃ (a : Addr) (n : Nat) (J : Nat → Nat → Nat), vs = [.ref a] ∧ Tbl K H a n J ∧ n ≤ 16 ∧ (∀ a b, a < n → b < n → J a b = J b a) ∧ ∀ v H', Same H H' → Q v H'
def sp_check_grouping (K : PySem.W.Frag) : Sp := fun vs H Q _ => ∃ (w : Str) (a : Addr) (n : Nat) (J : Nat → Nat → Nat), vs = [.str w, .ref a] ∧ Tbl K H a n J ∧ n ≤ 16 ∧ (∀ a b, a < n → b < n → J a b < n) ∧ (∀ a b c, a < n → b < n → c < n → J (J a b) c = J a (J b c)) ∧ ∀ v H', Same H H' → Q v H'
def sp_check_over (K : PySem.W.Frag) : Sp := fun vs H Q _ => ∃ (a b : Addr) (n z o : Nat) (J M : Nat → Nat → Nat), vs = [.ref a, .ref b] ∧ Tbl K H a n J ∧ Tbl K H b n M ∧ Rk n J M z o ∧ ∀ v H', Same H H' → Q v H'
theorem ok_check_size (T : Txt K mg) : FnOk P w K mg base CX0 4 T.f_check_size T.fd_check_size ["joins", "products", "none", "one"] (sp_check_size K) := by
  refine T.F_check_size.ok sc_check_size (fun vs H Q E h => ?_) (fun cdv A outer s H vs Q E hr h => ?_)
  · obtain ⟨a, b, n, z, o, J, M, rfl, _⟩ := h
    rfl
  · obtain ⟨a, b, n, z, o, J, M, rfl, hJ, hM, R, k⟩ := h
    refine ⟨_, (pss_cons (ps_set (i := 4) sc_check_size.nd rfl (.inr rfl) (pe_ifExp (pt_val (pe_callB (id := "isinstance") (r := rIsiT K) call_isiT (by rfl) T.n_isinstance (by decide +kernel) (pa_cons (pv 0) (pa_cons (pe_tup (pa_cons (pe_bltn (v := .ty "list") (u := .type "list") (by rfl) T.n_list (by decide +kernel) rfl) (pa_cons (pe_bltn (v := .ty "tuple") (u := .type "tuple") (by rfl) T.n_tuple (by decide +kernel) rfl) pa_nil))) pa_nil)))) (pe_callB (id := "len") (r := Rd.nLen K) Rd.c_len (by rfl) T.n_len (by decide +kernel) (pa_cons (pv 0) pa_nil)) pe_int))
  (pss_cons (ps_set (i := 5) sc_check_size.nd rfl (.inl rfl) (pe_and (pe_chain op_le op_le (pe_glob (v := .int 2) rfl T.m_LEAST_SIZE ⟨_, rfl⟩) (pv 4) (pe_glob (v := .int 16) rfl T.m_MOST_SIZE ⟨_, rfl⟩)) (pe_and (pe_call (ok_is_square T) (hr.mono (by decide)) rfl T.g_is_square T.F_is_square.kp T.b_is_square .nil pass0 (pa_cons (pv 0) (pa_cons (pv 4) pa_nil))) (pe_one (pe_call (ok_is_square T) (hr.mono (by decide)) rfl T.g_is_square T.F_is_square.kp T.b_is_square .nil pass0 (pa_cons (pv 1) (pa_cons (pv 4) pa_nil)))))))
  (pss_one (ps_if (PW.pt (pw_or (pt_not (pt_val (pv 5))) (pw_or1 (pt_not (pt_val (pe_callB (id := "all") (r := rAll K) (cr_all rfl) (by rfl) T.n_all (by decide +kernel) (pa_cons (pe_lc (own := [("worth", 6)]) (g := gName 6) (tt := tYes) rfl sc_check_size.nd (pi_tup (pe_tup (pa_cons (pv 2) (pa_cons (pv 3) pa_nil)))) (blkOk_by (own := [("worth", 6)]) (N := ["joins", "products", "none", "one", "size", "fits", "worth"]) (sc := defScope s_check_size) (by decide +kernel)) (fun _ _ _ _ _ => (pg_name (i := 6) sc_check_size.nd rfl (.inl rfl))) (fun _ _ _ _ _ => pts_nil) (fun _ _ _ _ _ => (pe_and (pe_call (ok_is_integer T) (hr.mono (by decide)) rfl T.g_is_integer T.F_is_integer.kp T.b_is_integer .nil pass0 (pa_cons (pv 6) pa_nil)) (pe_one (pe_chain op_le op_lt pe_int (pv 6) (pv 4)))))) pa_nil)))))))
  (pss_one ps_never)
  pss_nil)))), ?_⟩
    have n2 := R.n2
    have n16 := R.n16
    have zn := R.zn
    have on := R.on
    obtain ⟨rs, hR, rl, _⟩ := id hJ
    walk_at "rd"
    refine ⟨Nat.le_of_ble_eq_true rfl, Rd.new fun p G hp gp sG => ?_⟩
    walk_at "rd"
    refine Ru.isRow (hR.same sG) gp ?_
    walk_at "rd"
    refine (hJ.same sG).len ?_
    walk_at "rd"
    refine Rd.yes (by omega) ?_
    walk_at "rd"
    refine Rd.yes (by omega) ?_
    walk_at "rd"
    refine ⟨a, n, J, rfl, hJ.same sG, fun i j hi hj => R.jn i j hi hj, n16, fun H1 s1 => ?_⟩
    have s01 := sG.trans s1
    walk_at "rd"
    refine ⟨b, n, M, rfl, hM.same s01, fun i j hi hj => R.mn i j hi hj, n16, fun H2 s2 => ?_⟩
    have s02 := s01.trans s2
    walk_at "rd"
    refine ⟨Nat.le_of_ble_eq_true rfl, Rd.new fun p2 G2 hp2 gp2 sG2 => ?_⟩
    walk_at "rd"
    refine ⟨⟨_, .of gp2⟩, Rd.lcS walk_tup (fun _ s => .of (s _ _ gp2)) (fun D i acc _ => acc = (List.replicate i true).map V.bl) (fun _ _ _ _ _ => rfl) ?_ ?_⟩
    · rintro D i x G3 _ acc nD hi hD sm rfl ⟨rfl, hx⟩
      obtain ⟨v, vn, rfl⟩ : ∃ v : Nat, v < n ∧ x = .int (v : Nat) := by
        match i, hx with
        | 0, hx => exact ⟨z, zn, (Option.some.inj hx).symm⟩
        | 1, hx => exact ⟨o, on, (Option.some.inj hx).symm⟩
        | i + 2, hx => simp at hx
      have i2 : i < 2 := hi
      walk_at "rd"
      refine ⟨rfl, ?_⟩
      walk_at "rd"
      refine ⟨_, _, rfl, .int _, ?_⟩
      walk_at "rd"
      refine Rd.yes rfl ?_
      walk_at "rd"
      refine Rd.yes (by omega) ?_
      walk_at "rd"
      rw [decide_eq_true (by omega)]
      refine Rd.lcPush hD nD sm (by rw [List.length_map, List.length_replicate, sizeLine_eq]; omega) fun G _ _ => ?_
      rw [List.replicate_succ', List.map_append]
      rfl
    · rintro D acc G3 nD hD s3 rfl
      walk_at "rd"
      refine Rd.all (.of hD) ?_
      rw [show (List.replicate [V.int (z : Nat), .int (o : Nat)].length true).all id = true by simp]
      walk_at "rd"
      exact k _ _ ((s02.trans sG2).trans s3)
theorem ints2 (x y : Int) : [V.int x, .int y] = [x, y].map V.int := rfl
theorem ok_check_singles (T : Txt K mg) : FnOk P w K mg base CX0 4 T.f_check_singles T.fd_check_singles ["joins", "products", "none", "one"] (sp_check_singles K) := by
  refine T.F_check_singles.ok sc_check_singles (fun vs H Q E h => ?_) (fun cdv A outer s H vs Q E hr h => ?_)
  · obtain ⟨a, b, n, z, o, J, M, rfl, _⟩ := h
    rfl
  · obtain ⟨a, b, n, z, o, J, M, rfl, hJ, hM, R, k⟩ := h
    refine ⟨_, (pss_cons (ps_set (i := 4) sc_check_singles.nd rfl (.inl rfl) (pe_callB (id := "len") (r := Rd.nLen K) Rd.c_len (by rfl) T.n_len (by decide +kernel) (pa_cons (pv 0) pa_nil)))
  (pss_cons (ps_for PassesOwn.never rfl (pi_range1 rfl T.n_range (pa_cons (pv 4) pa_nil)) (pg_name (i := 5) sc_check_singles.nd rfl (.inl rfl))
  (pss_cons (ps_set (i := 6) sc_check_singles.nd rfl (.inl rfl) (pe_tup (pa_cons (pe_ix (r := fun x y H Q => rIxL K x y H Q ∨ rIxT K x y H Q) (IxR.or ix_list ix_tup) (pe_ix (r := fun x y H Q => rIxL K x y H Q ∨ rIxT K x y H Q) (IxR.or ix_list ix_tup) (pv 0) (pv 2) (fun _ _ => rfl)) (pv 5) (fun _ _ => rfl)) (pa_cons (pe_ix (r := fun x y H Q => rIxL K x y H Q ∨ rIxT K x y H Q) (IxR.or ix_list ix_tup) (pe_ix (r := fun x y H Q => rIxL K x y H Q ∨ rIxT K x y H Q) (IxR.or ix_list ix_tup) (pv 0) (pv 5) (fun _ _ => rfl)) (pv 2) (fun _ _ => rfl)) pa_nil))))
  (pss_one (ps_if (PW.pt (pw_or (pt_cmpR (r := rNeD K) (op_neD hr.units) (pv 6) (pe_tup (pa_cons (pv 5) (pa_cons (pv 5) pa_nil))) (nomark _)) (pw_or1 (pt_cmpR (r := rNeD K) (op_neD hr.units) (pe_tup (pa_cons (pe_ix (r := fun x y H Q => rIxL K x y H Q ∨ rIxT K x y H Q) (IxR.or ix_list ix_tup) (pe_ix (r := fun x y H Q => rIxL K x y H Q ∨ rIxT K x y H Q) (IxR.or ix_list ix_tup) (pv 1) (pv 2) (fun _ _ => rfl)) (pv 5) (fun _ _ => rfl)) (pa_cons (pe_ix (r := fun x y H Q => rIxL K x y H Q ∨ rIxT K x y H Q) (IxR.or ix_list ix_tup) (pe_ix (r := fun x y H Q => rIxL K x y H Q ∨ rIxT K x y H Q) (IxR.or ix_list ix_tup) (pv 1) (pv 5) (fun _ _ => rfl)) (pv 2) (fun _ _ => rfl)) pa_nil))) (pe_tup (pa_cons (pv 2) (pa_cons (pv 2) pa_nil))) (nomark _)))))
  (pss_one ps_never)
  pss_nil))))
  (pss_cons (ps_for PassesOwn.never rfl (pi_range1 rfl T.n_range (pa_cons (pv 4) pa_nil)) (pg_name (i := 5) sc_check_singles.nd rfl (.inl rfl))
  (pss_one (ps_if (pt_cmpR (r := rNeD K) (op_neD hr.units) (pe_tup (pa_cons (pe_ix (r := fun x y H Q => rIxL K x y H Q ∨ rIxT K x y H Q) (IxR.or ix_list ix_tup) (pe_ix (r := fun x y H Q => rIxL K x y H Q ∨ rIxT K x y H Q) (IxR.or ix_list ix_tup) (pv 1) (pv 3) (fun _ _ => rfl)) (pv 5) (fun _ _ => rfl)) (pa_cons (pe_ix (r := fun x y H Q => rIxL K x y H Q ∨ rIxT K x y H Q) (IxR.or ix_list ix_tup) (pe_ix (r := fun x y H Q => rIxL K x y H Q ∨ rIxT K x y H Q) (IxR.or ix_list ix_tup) (pv 1) (pv 5) (fun _ _ => rfl)) (pv 3) (fun _ _ => rfl)) pa_nil))) (pe_tup (pa_cons (pv 5) (pa_cons (pv 5) pa_nil))) (nomark _))
  (pss_one ps_never)
  pss_nil)))
  (pss_one (ps_for PassesOwn.never rfl (pi_range1 rfl T.n_range (pa_cons (pv 4) pa_nil)) (pg_name (i := 5) sc_check_singles.nd rfl (.inl rfl))
  (pss_one (ps_if (pt_cmpR op_ne (pe_ix (r := fun x y H Q => rIxL K x y H Q ∨ rIxT K x y H Q) (IxR.or ix_list ix_tup) (pe_ix (r := fun x y H Q => rIxL K x y H Q ∨ rIxT K x y H Q) (IxR.or ix_list ix_tup) (pv 0) (pv 5) (fun _ _ => rfl)) (pv 5) (fun _ _ => rfl)) (pv 5) (nomark _))
  (pss_one ps_never)
  pss_nil))))))), ?_⟩
    have n16 := R.n16
    have zn := R.zn
    have on := R.on
    walk_at "rd"
    refine hJ.len ?_
    walk_at "rd"
    refine Rd.forS ?_
    walk_at "rd"
    refine ⟨by omega, by omega, ?_⟩
    refine for_range (lo := 0) (n := n) (fun i σ H' => ∃ (o5 o6 : Option V), σ = [some (.ref a), some (.ref b), some (.int (z : Nat)), some (.int (o : Nat)), some (.int (n : Nat)), o5, o6] ∧ Same H H') ⟨_, _, rfl, Same.refl _⟩ ?_ ?_
    · rintro i _ H1 hi ⟨o5, o6, rfl, s1⟩
      rw [show 0 + (i : Int) = i from Int.zero_add _]
      obtain ⟨j1, j2⟩ := R.jz i hi
      obtain ⟨m1, m2⟩ := R.mz i hi
      walk_at "rd"
      refine (hJ.same s1).two zn hi (vr rfl) ?_
      walk_at "rd"
      refine (hJ.same s1).two hi zn (vr rfl) ?_
      walk_at "rd"
      rw [j1, j2]
      refine ⟨Nat.le_of_ble_eq_true rfl, Rd.new fun p G hp gp sG => ?_⟩
      have s2 := s1.trans sG
      walk_at "rd"
      refine ⟨Nat.le_of_ble_eq_true rfl, Rd.new fun p2 G2 hp2 gp2 sG2 => ?_⟩
      have s3 := s2.trans sG2
      refine neTups (ns := [(i : Int), i]) (ms := [(i : Int), i]) (.of (sG2 _ _ gp)) (.of gp2) ?_
      rw [decide_eq_true rfl]
      walk_at "rd"
      refine (hM.same s3).two zn hi (vr rfl) ?_
      walk_at "rd"
      refine (hM.same s3).two hi zn (vr rfl) ?_
      walk_at "rd"
      rw [m1, m2]
      refine ⟨Nat.le_of_ble_eq_true rfl, Rd.new fun p3 G3 hp3 gp3 sG3 => ?_⟩
      walk_at "rd"
      refine ⟨Nat.le_of_ble_eq_true rfl, Rd.new fun p4 G4 hp4 gp4 sG4 => ?_⟩
      refine neTups (ns := [(z : Int), z]) (ms := [(z : Int), z]) (.of (sG4 _ _ gp3)) (.of gp4) ?_
      rw [decide_eq_true rfl]
      walk_at "rd"
      exact ⟨_, _, rfl, (s3.trans sG3).trans sG4⟩
    · rintro _ H1 ⟨o5, o6, rfl, s1⟩
      walk_at "rd"
      refine Rd.forS ?_
      walk_at "rd"
      refine ⟨by omega, by omega, ?_⟩
      refine for_range (lo := 0) (n := n) (fun i σ H' => ∃ (o5 o6 : Option V), σ = [some (.ref a), some (.ref b), some (.int (z : Nat)), some (.int (o : Nat)), some (.int (n : Nat)), o5, o6] ∧ Same H H') ⟨_, _, rfl, s1⟩ ?_ ?_
      · clear s1
        rintro i _ H1 hi ⟨o5, o6, rfl, s1⟩
        rw [show 0 + (i : Int) = i from Int.zero_add _]
        obtain ⟨m1, m2⟩ := R.mo i hi
        walk_at "rd"
        refine (hM.same s1).two on hi (vr rfl) ?_
        walk_at "rd"
        refine (hM.same s1).two hi on (vr rfl) ?_
        walk_at "rd"
        rw [m1, m2]
        refine ⟨Nat.le_of_ble_eq_true rfl, Rd.new fun p3 G3 hp3 gp3 sG3 => ?_⟩
        walk_at "rd"
        refine ⟨Nat.le_of_ble_eq_true rfl, Rd.new fun p4 G4 hp4 gp4 sG4 => ?_⟩
        refine neTups (ns := [(i : Int), i]) (ms := [(i : Int), i]) (.of (sG4 _ _ gp3)) (.of gp4) ?_
        rw [decide_eq_true rfl]
        walk_at "rd"
        exact ⟨_, _, rfl, (s1.trans sG3).trans sG4⟩
      · clear s1
        rintro _ H1 ⟨o5, o6, rfl, s1⟩
        walk_at "rd"
        refine Rd.forS ?_
        walk_at "rd"
        refine ⟨by omega, by omega, ?_⟩
        refine for_range (lo := 0) (n := n) (fun i σ H' => ∃ (o5 o6 : Option V), σ = [some (.ref a), some (.ref b), some (.int (z : Nat)), some (.int (o : Nat)), some (.int (n : Nat)), o5, o6] ∧ Same H H') ⟨_, _, rfl, s1⟩ ?_ ?_
        · clear s1
          rintro i _ H1 hi ⟨o5, o6, rfl, s1⟩
          rw [show 0 + (i : Int) = i from Int.zero_add _]
          walk_at "rd"
          refine (hJ.same s1).two hi hi (vr rfl) ?_
          walk_at "rd"
          rw [R.idem i hi]
          refine Rd.yes rfl ?_
          walk_at "rd"
          exact ⟨_, _, rfl, s1⟩
        · clear s1
          rintro _ H1 ⟨o5, o6, rfl, s1⟩
          walk_at "rd"
          exact k _ _ s1
theorem ok_check_swaps (T : Txt K mg) : FnOk P w K mg base CX0 4 T.f_check_swaps T.fd_check_swaps ["joins"] (sp_check_swaps K) := by
  refine T.F_check_swaps.ok sc_check_swaps (fun vs H Q E h => ?_) (fun cdv A outer s H vs Q E hr h => ?_)
  · obtain ⟨a, n, J, rfl, _⟩ := h
    rfl
  · obtain ⟨a, n, J, rfl, hJ, n16, sw, k⟩ := h
    refine ⟨_, (pss_one (ps_for PassesOwn.never rfl (pi_range1 rfl T.n_range (pa_cons (pe_callB (id := "len") (r := Rd.nLen K) Rd.c_len (by rfl) T.n_len (by decide +kernel) (pa_cons (pv 0) pa_nil)) pa_nil)) (pg_name (i := 1) sc_check_swaps.nd rfl (.inl rfl))
  (pss_one (ps_for PassesOwn.never rfl (pi_range1 rfl T.n_range (pa_cons (pe_callB (id := "len") (r := Rd.nLen K) Rd.c_len (by rfl) T.n_len (by decide +kernel) (pa_cons (pv 0) pa_nil)) pa_nil)) (pg_name (i := 2) sc_check_swaps.nd rfl (.inl rfl))
  (pss_one (ps_if (pt_cmpR op_ne (pe_ix (r := fun x y H Q => rIxL K x y H Q ∨ rIxT K x y H Q) (IxR.or ix_list ix_tup) (pe_ix (r := fun x y H Q => rIxL K x y H Q ∨ rIxT K x y H Q) (IxR.or ix_list ix_tup) (pv 0) (pv 1) (fun _ _ => rfl)) (pv 2) (fun _ _ => rfl)) (pe_ix (r := fun x y H Q => rIxL K x y H Q ∨ rIxT K x y H Q) (IxR.or ix_list ix_tup) (pe_ix (r := fun x y H Q => rIxL K x y H Q ∨ rIxT K x y H Q) (IxR.or ix_list ix_tup) (pv 0) (pv 2) (fun _ _ => rfl)) (pv 1) (fun _ _ => rfl)) (nomark _))
  (pss_one ps_never)
  pss_nil)))))), ?_⟩
    walk_at "rd"
    refine Rd.forS ?_
    walk_at "rd"
    refine hJ.len ?_
    walk_at "rd"
    refine ⟨by omega, by omega, ?_⟩
    refine for_range (lo := 0) (n := n) (fun i σ H' => ∃ (o1 o2 : Option V), σ = [some (.ref a), o1, o2] ∧ H' = H) ⟨_, _, rfl, rfl⟩ ?_ ?_
    · rintro i _ H1 hi ⟨o1, o2, rfl, eH⟩
      obtain rfl : H = H1 := eH.symm
      rw [show 0 + (i : Int) = i from Int.zero_add _]
      walk_at "rd"
      refine Rd.forS ?_
      walk_at "rd"
      refine hJ.len ?_
      walk_at "rd"
      refine ⟨by omega, by omega, ?_⟩
      refine for_range (lo := 0) (n := n) (fun j σ H' => ∃ (o2 : Option V), σ = [some (.ref a), some (.int (i : Nat)), o2] ∧ H' = H) ⟨_, rfl, rfl⟩ ?_ ?_
      · rintro j _ H1 hj ⟨o2, rfl, eH⟩
        obtain rfl : H = H1 := eH.symm
        rw [show 0 + (j : Int) = j from Int.zero_add _]
        walk_at "rd"
        refine hJ.two hi hj (vr rfl) ?_
        walk_at "rd"
        refine hJ.two hj hi (vr rfl) ?_
        walk_at "rd"
        rw [sw i j hi hj]
        refine Rd.yes rfl ?_
        walk_at "rd"
        exact ⟨_, rfl, rfl⟩
      · rintro _ _ ⟨o2, rfl, rfl⟩
        walk_at "rd"
        exact ⟨_, _, rfl, rfl⟩
    · rintro _ _ ⟨o1, o2, rfl, rfl⟩
      walk_at "rd"
      exact k _ _ (Same.refl _)
theorem ok_check_grouping (T : Txt K mg) : FnOk P w K mg base CX0 4 T.f_check_grouping T.fd_check_grouping ["word", "rows"] (sp_check_grouping K) := by
  refine T.F_check_grouping.ok sc_check_grouping (fun vs H Q E h => ?_) (fun cdv A outer s H vs Q E hr h => ?_)
  · obtain ⟨w, a, n, J, rfl, _⟩ := h
    rfl
  · obtain ⟨w, a, n, J, rfl, hJ, n16, cl, ass, k⟩ := h
    refine ⟨_, (pss_cons (ps_set (i := 2) sc_check_grouping.nd rfl (.inl rfl) (pe_callB (id := "len") (r := Rd.nLen K) Rd.c_len (by rfl) T.n_len (by decide +kernel) (pa_cons (pv 1) pa_nil)))
  (pss_one (ps_for PassesOwn.never rfl (pi_range1 rfl T.n_range (pa_cons (pv 2) pa_nil)) (pg_name (i := 3) sc_check_grouping.nd rfl (.inl rfl))
  (pss_one (ps_for PassesOwn.never rfl (pi_range1 rfl T.n_range (pa_cons (pv 2) pa_nil)) (pg_name (i := 4) sc_check_grouping.nd rfl (.inl rfl))
  (pss_one (ps_for PassesOwn.never rfl (pi_range1 rfl T.n_range (pa_cons (pv 2) pa_nil)) (pg_name (i := 5) sc_check_grouping.nd rfl (.inl rfl))
  (pss_one (ps_if (pt_cmpR op_ne (pe_ix (r := fun x y H Q => rIxL K x y H Q ∨ rIxT K x y H Q) (IxR.or ix_list ix_tup) (pe_ix (r := fun x y H Q => rIxL K x y H Q ∨ rIxT K x y H Q) (IxR.or ix_list ix_tup) (pv 1) (pe_ix (r := fun x y H Q => rIxL K x y H Q ∨ rIxT K x y H Q) (IxR.or ix_list ix_tup) (pe_ix (r := fun x y H Q => rIxL K x y H Q ∨ rIxT K x y H Q) (IxR.or ix_list ix_tup) (pv 1) (pv 3) (fun _ _ => rfl)) (pv 4) (fun _ _ => rfl)) (fun _ _ => rfl)) (pv 5) (fun _ _ => rfl)) (pe_ix (r := fun x y H Q => rIxL K x y H Q ∨ rIxT K x y H Q) (IxR.or ix_list ix_tup) (pe_ix (r := fun x y H Q => rIxL K x y H Q ∨ rIxT K x y H Q) (IxR.or ix_list ix_tup) (pv 1) (pv 3) (fun _ _ => rfl)) (pe_ix (r := fun x y H Q => rIxL K x y H Q ∨ rIxT K x y H Q) (IxR.or ix_list ix_tup) (pe_ix (r := fun x y H Q => rIxL K x y H Q ∨ rIxT K x y H Q) (IxR.or ix_list ix_tup) (pv 1) (pv 4) (fun _ _ => rfl)) (pv 5) (fun _ _ => rfl)) (fun _ _ => rfl)) (nomark _))
  (pss_one ps_never)
  pss_nil))))))))), ?_⟩
    walk_at "rd"
    refine hJ.len ?_
    walk_at "rd"
    refine Rd.forS ?_
    walk_at "rd"
    refine ⟨by omega, by omega, ?_⟩
    refine for_range (lo := 0) (n := n) (fun i σ H' => ∃ (o1 o2 o3 : Option V), σ = [some (.str w), some (.ref a), some (.int (n : Nat)), o1, o2, o3] ∧ H' = H) ⟨_, _, _, rfl, rfl⟩ ?_ ?_
    · rintro i _ H1 hi ⟨o1, o2, o3, rfl, eH⟩
      obtain rfl : H = H1 := eH.symm
      rw [show 0 + (i : Int) = i from Int.zero_add _]
      walk_at "rd"
      refine Rd.forS ?_
      walk_at "rd"
      refine ⟨by omega, by omega, ?_⟩
      refine for_range (lo := 0) (n := n) (fun j σ H' => ∃ (o2 o3 : Option V), σ = [some (.str w), some (.ref a), some (.int (n : Nat)), some (.int (i : Nat)), o2, o3] ∧ H' = H) ⟨_, _, rfl, rfl⟩ ?_ ?_
      · rintro j _ H1 hj ⟨o2, o3, rfl, eH⟩
        obtain rfl : H = H1 := eH.symm
        rw [show 0 + (j : Int) = j from Int.zero_add _]
        walk_at "rd"
        refine Rd.forS ?_
        walk_at "rd"
        refine ⟨by omega, by omega, ?_⟩
        refine for_range (lo := 0) (n := n) (fun c σ H' => ∃ (o3 : Option V), σ = [some (.str w), some (.ref a), some (.int (n : Nat)), some (.int (i : Nat)), some (.int (j : Nat)), o3] ∧ H' = H) ⟨_, rfl, rfl⟩ ?_ ?_
        · rintro c _ H1 hc ⟨o3, rfl, eH⟩
          obtain rfl : H = H1 := eH.symm
          rw [show 0 + (c : Int) = c from Int.zero_add _]
          walk_at "rd"
          refine hJ.two hi hj (vr rfl) ?_
          refine hJ.two (cl i j hi hj) hc (vr rfl) ?_
          walk_at "rd"
          refine hJ.one hi fun r hr => ?_
          walk_at "rd"
          refine hJ.two hj hc (vr rfl) ?_
          refine rowIx hr (cl j c hj hc) ?_
          walk_at "rd"
          rw [ass i j c hi hj hc]
          refine Rd.yes rfl ?_
          walk_at "rd"
          exact ⟨_, rfl, rfl⟩
        · rintro _ _ ⟨o3, rfl, rfl⟩
          walk_at "rd"
          exact ⟨_, _, rfl, rfl⟩
      · rintro _ _ ⟨o2, o3, rfl, rfl⟩
        walk_at "rd"
        exact ⟨_, _, _, rfl, rfl⟩
    · rintro _ _ ⟨o1, o2, o3, rfl, rfl⟩
      walk_at "rd"
      exact k _ _ (Same.refl _)
theorem ok_check_over (T : Txt K mg) : FnOk P w K mg base CX0 4 T.f_check_over T.fd_check_over ["joins", "products"] (sp_check_over K) := by
  refine T.F_check_over.ok sc_check_over (fun vs H Q E h => ?_) (fun cdv A outer s H vs Q E hr h => ?_)
  · obtain ⟨a, b, n, z, o, J, M, rfl, _⟩ := h
    rfl
  · obtain ⟨a, b, n, z, o, J, M, rfl, hJ, hM, R, k⟩ := h
    refine ⟨_, (pss_cons (ps_set (i := 2) sc_check_over.nd rfl (.inl rfl) (pe_callB (id := "len") (r := Rd.nLen K) Rd.c_len (by rfl) T.n_len (by decide +kernel) (pa_cons (pv 0) pa_nil)))
  (pss_one (ps_for PassesOwn.never rfl (pi_range1 rfl T.n_range (pa_cons (pv 2) pa_nil)) (pg_name (i := 3) sc_check_over.nd rfl (.inl rfl))
  (pss_one (ps_for PassesOwn.never rfl (pi_range1 rfl T.n_range (pa_cons (pv 2) pa_nil)) (pg_name (i := 4) sc_check_over.nd rfl (.inl rfl))
  (pss_one (ps_for PassesOwn.never rfl (pi_range1 rfl T.n_range (pa_cons (pv 2) pa_nil)) (pg_name (i := 5) sc_check_over.nd rfl (.inl rfl))
  (pss_cons (ps_set (i := 6) sc_check_over.nd rfl (.inl rfl) (pe_ix (r := fun x y H Q => rIxL K x y H Q ∨ rIxT K x y H Q) (IxR.or ix_list ix_tup) (pe_ix (r := fun x y H Q => rIxL K x y H Q ∨ rIxT K x y H Q) (IxR.or ix_list ix_tup) (pv 0) (pv 4) (fun _ _ => rfl)) (pv 5) (fun _ _ => rfl)))
  (pss_cons (ps_set (i := 7) sc_check_over.nd rfl (.inl rfl) (pe_cmpR op_eq (pe_ix (r := fun x y H Q => rIxL K x y H Q ∨ rIxT K x y H Q) (IxR.or ix_list ix_tup) (pe_ix (r := fun x y H Q => rIxL K x y H Q ∨ rIxT K x y H Q) (IxR.or ix_list ix_tup) (pv 1) (pv 3) (fun _ _ => rfl)) (pv 6) (fun _ _ => rfl)) (pe_ix (r := fun x y H Q => rIxL K x y H Q ∨ rIxT K x y H Q) (IxR.or ix_list ix_tup) (pe_ix (r := fun x y H Q => rIxL K x y H Q ∨ rIxT K x y H Q) (IxR.or ix_list ix_tup) (pv 0) (pe_ix (r := fun x y H Q => rIxL K x y H Q ∨ rIxT K x y H Q) (IxR.or ix_list ix_tup) (pe_ix (r := fun x y H Q => rIxL K x y H Q ∨ rIxT K x y H Q) (IxR.or ix_list ix_tup) (pv 1) (pv 3) (fun _ _ => rfl)) (pv 4) (fun _ _ => rfl)) (fun _ _ => rfl)) (pe_ix (r := fun x y H Q => rIxL K x y H Q ∨ rIxT K x y H Q) (IxR.or ix_list ix_tup) (pe_ix (r := fun x y H Q => rIxL K x y H Q ∨ rIxT K x y H Q) (IxR.or ix_list ix_tup) (pv 1) (pv 3) (fun _ _ => rfl)) (pv 5) (fun _ _ => rfl)) (fun _ _ => rfl)) (nomark _)))
  (pss_one (ps_if (PW.pt (pw_or (pt_not (pt_val (pv 7))) (pw_or1 (pt_cmpR op_ne (pe_ix (r := fun x y H Q => rIxL K x y H Q ∨ rIxT K x y H Q) (IxR.or ix_list ix_tup) (pe_ix (r := fun x y H Q => rIxL K x y H Q ∨ rIxT K x y H Q) (IxR.or ix_list ix_tup) (pv 1) (pv 6) (fun _ _ => rfl)) (pv 3) (fun _ _ => rfl)) (pe_ix (r := fun x y H Q => rIxL K x y H Q ∨ rIxT K x y H Q) (IxR.or ix_list ix_tup) (pe_ix (r := fun x y H Q => rIxL K x y H Q ∨ rIxT K x y H Q) (IxR.or ix_list ix_tup) (pv 0) (pe_ix (r := fun x y H Q => rIxL K x y H Q ∨ rIxT K x y H Q) (IxR.or ix_list ix_tup) (pe_ix (r := fun x y H Q => rIxL K x y H Q ∨ rIxT K x y H Q) (IxR.or ix_list ix_tup) (pv 1) (pv 4) (fun _ _ => rfl)) (pv 3) (fun _ _ => rfl)) (fun _ _ => rfl)) (pe_ix (r := fun x y H Q => rIxL K x y H Q ∨ rIxT K x y H Q) (IxR.or ix_list ix_tup) (pe_ix (r := fun x y H Q => rIxL K x y H Q ∨ rIxT K x y H Q) (IxR.or ix_list ix_tup) (pv 1) (pv 5) (fun _ _ => rfl)) (pv 3) (fun _ _ => rfl)) (fun _ _ => rfl)) (nomark _)))))
  (pss_one ps_never)
  pss_nil))))))))))), ?_⟩
    have n16 := R.n16
    walk_at "rd"
    refine hJ.len ?_
    walk_at "rd"
    refine Rd.forS ?_
    walk_at "rd"
    refine ⟨by omega, by omega, ?_⟩
    refine for_range (lo := 0) (n := n) (fun i σ H' => ∃ (o1 o2 o3 o4 o5 : Option V), σ = [some (.ref a), some (.ref b), some (.int (n : Nat)), o1, o2, o3, o4, o5] ∧ H' = H) ⟨_, _, _, _, _, rfl, rfl⟩ ?_ ?_
    · rintro i _ H1 hi ⟨o1, o2, o3, o4, o5, rfl, eH⟩
      obtain rfl : H = H1 := eH.symm
      rw [show 0 + (i : Int) = i from Int.zero_add _]
      walk_at "rd"
      refine Rd.forS ?_
      walk_at "rd"
      refine ⟨by omega, by omega, ?_⟩
      refine for_range (lo := 0) (n := n) (fun j σ H' => ∃ (o2 o3 o4 o5 : Option V), σ = [some (.ref a), some (.ref b), some (.int (n : Nat)), some (.int (i : Nat)), o2, o3, o4, o5] ∧ H' = H) ⟨_, _, _, _, rfl, rfl⟩ ?_ ?_
      · rintro j _ H1 hj ⟨o2, o3, o4, o5, rfl, eH⟩
        obtain rfl : H = H1 := eH.symm
        rw [show 0 + (j : Int) = j from Int.zero_add _]
        walk_at "rd"
        refine Rd.forS ?_
        walk_at "rd"
        refine ⟨by omega, by omega, ?_⟩
        refine for_range (lo := 0) (n := n) (fun c σ H' => ∃ (o3 o4 o5 : Option V), σ = [some (.ref a), some (.ref b), some (.int (n : Nat)), some (.int (i : Nat)), some (.int (j : Nat)), o3, o4, o5] ∧ H' = H) ⟨_, _, _, rfl, rfl⟩ ?_ ?_
        · rintro c _ H1 hc ⟨o3, o4, o5, rfl, eH⟩
          obtain rfl : H = H1 := eH.symm
          rw [show 0 + (c : Int) = c from Int.zero_add _]
          obtain ⟨e1, e2⟩ := R.over i j c hi hj hc
          have jc := R.jn j c hj hc
          walk_at "rd"
          refine hJ.two hj hc (vr rfl) ?_
          walk_at "rd"
          refine hM.two hi jc (vr rfl) ?_
          walk_at "rd"
          refine hM.two hi hj (vr rfl) ?_
          refine hJ.one (R.mn i j hi hj) fun r hr => ?_
          walk_at "rd"
          refine hM.two hi hc (vr rfl) ?_
          refine rowIx hr (R.mn i c hi hc) ?_
          walk_at "rd"
          rw [e1, decide_eq_true rfl]
          refine Rd.yes rfl ?_
          walk_at "rd"
          refine hM.two jc hi (vr rfl) ?_
          walk_at "rd"
          refine hM.two hj hi (vr rfl) ?_
          refine hJ.one (R.mn j i hj hi) fun r hr => ?_
          walk_at "rd"
          refine hM.two hc hi (vr rfl) ?_
          refine rowIx hr (R.mn c i hc hi) ?_
          walk_at "rd"
          rw [e2]
          refine Rd.yes rfl ?_
          walk_at "rd"
          exact ⟨_, _, _, rfl, rfl⟩
        · rintro _ _ ⟨o3, o4, o5, rfl, rfl⟩
          walk_at "rd"
          exact ⟨_, _, _, _, rfl, rfl⟩
      · rintro _ _ ⟨o2, o3, o4, o5, rfl, rfl⟩
        walk_at "rd"
        exact ⟨_, _, _, _, _, rfl, rfl⟩
    · rintro _ _ ⟨o1, o2, o3, o4, o5, rfl, rfl⟩
      walk_at "rd"
      exact k _ _ (Same.refl _)

end
end W

namespace W
open PySem PySem.Spec PyProof.Rows L2
section
variable {P : Program} {w : World} {K : PySem.W.Frag} {mg : Str → Option Value} {base : Heap}
/-! ### rows and tables built by comprehensions -/
def natL (xs : List Nat) : List V := (xs.map fun i : Nat => (i : Int)).map V.int
theorem natL_len (P : List Nat) : (natL P).length = P.length := by
  unfold natL
  rw [List.length_map, List.length_map]
theorem natL_get {P : List Nat} {i : Nat} {x : V} (h : (natL P)[i]? = some x) : ∃ j, P[i]? = some j ∧ x = .int (j : Nat) := by
  unfold natL at h
  rw [List.map_map, List.getElem?_map] at h
  cases e : P[i]? with
  | none => rw [e] at h; cases h
  | some j => rw [e] at h; exact ⟨j, rfl, (Option.some.inj h).symm⟩
theorem natL_at {P : List Nat} {i j : Nat} (h : P[i]? = some j) : (natL P)[i]? = some (.int (j : Nat)) := by
  unfold natL
  rw [List.getElem?_map, List.getElem?_map, h]
  rfl
theorem natL_snoc (P : List Nat) (y : Nat) : natL P ++ [V.int (y : Nat)] = natL (P ++ [y]) := by
  unfold natL
  rw [List.map_append, List.map_append]
  rfl
theorem rowV_nat (f : Nat → Nat) (n : Nat) : rowV f n = natL ((List.range n).map f) := by
  unfold rowV natL
  rw [List.map_map, List.map_map, List.map_map]
  rfl
theorem rg0 {i : Nat} {v : V} (h : v = V.int (0 + (i : Int))) : v = .int (i : Nat) := by rw [h, Int.zero_add]
theorem filt_step' {f : Nat → Bool} {i : Nat} : (List.range (i + 1)).filter f = (List.range i).filter f ++ if f i = true then [i] else [] := by
  rw [List.range_succ, List.filter_append]
  congr 1
  cases e : f i <;> simp [e]
theorem flt_no {f : Nat → Bool} {i : Nat} (h : f i = false) : natL ((List.range i).filter f) = natL ((List.range (i + 1)).filter f) := by
  rw [filt_step', if_neg (by rw [h]; decide), List.append_nil]
theorem flt_yes {f : Nat → Bool} {i : Nat} (h : f i = true) : natL ((List.range i).filter f) ++ [V.int (i : Nat)] = natL ((List.range (i + 1)).filter f) := by
  rw [filt_step', if_pos h, natL_snoc]
/-- [f(j) for ..]: numbers -/
theorem lcNums {J : It} {n : Nat} {G : Hp → Prop} {Y : Nat → Hp → V → Hp → Prop} {σ : L2.St} {g : TG} {tt : TT} {te : TE} {vs : List Nat} {H1 : Hp} {Q : VK} (w : Walk J n G Y) (hG : ∀ H, Same H1 H → G H) (f : Nat → Nat) (n1 : n ≤ 1000)
    (hs : ∀ (j : Nat) (x : V) (H H' : Hp) (Q4 : VK) (P5 : Hp → Prop), j < n → Same H1 H → Y j H x H' → (∀ H4, Same H H4 → Q4 (.int (f j : Nat)) H4) → g x (wipe σ vs) H' fun σ2 H2 => wipe σ2 vs = wipe σ vs ∧ tt σ2 H2 fun b H3 => if b = true then te σ2 H3 Q4 else P5 H3)
    (hd : ∀ (D : Addr) (H : Hp), H1 D = none → Same H1 H → H D = some (.lst (rowV f n)) → Q (.ref D) H) : Rd.Lc J g tt te vs σ H1 Q := by
  refine Rd.lcS w hG (fun D i acc _ => acc = rowV f i) (fun _ _ _ _ _ => rfl) ?_ (fun D acc H nD hD sm e => hd D H nD sm (e ▸ hD))
  rintro D i x H H' acc nD hi hD sm rfl y
  refine hs i x H H' _ _ hi sm y fun H4 s4 => ?_
  exact Rd.lcPush (s4 _ _ hD) nD (sm.trans s4) (by rw [rowV_len, sizeLine_eq]; omega) fun _ _ _ => rowV_snoc f i
/-- rows at rs, laid as mk -/
def RowsAt (H : Hp) (mk : List V → HO) (rs : List Addr) (F : Nat → Nat → Nat) (n m : Nat) : Prop := rs.length = n ∧ ∀ i r, rs[i]? = some r → H r = some (mk (rowV (F i) m))
/-- [row for ..]: new rows of numbers -/
theorem lcTbl {J : It} {n : Nat} {G : Hp → Prop} {Y : Nat → Hp → V → Hp → Prop} {σ : L2.St} {g : TG} {tt : TT} {te : TE} {vs : List Nat} {H1 : Hp} {Q : VK} (w : Walk J n G Y) (hG : ∀ H, Same H1 H → G H) (mk : List V → HO) (F : Nat → Nat → Nat) (m : Nat) (n1 : n ≤ 1000)
    (hs : ∀ (i : Nat) (x : V) (H H' : Hp) (Q4 : VK) (P5 : Hp → Prop), i < n → Same H1 H → Y i H x H' → (∀ l H4, Same H H4 → H l = none → H4 l = some (mk (rowV (F i) m)) → Q4 (.ref l) H4) → g x (wipe σ vs) H' fun σ2 H2 => wipe σ2 vs = wipe σ vs ∧ tt σ2 H2 fun b H3 => if b = true then te σ2 H3 Q4 else P5 H3)
    (hd : ∀ (D : Addr) (rs : List Addr) (H : Hp), H1 D = none → Same H1 H → H D = some (.lst (rs.map V.ref)) → RowsAt H mk rs F n m → Q (.ref D) H) : Rd.Lc J g tt te vs σ H1 Q := by
  refine Rd.lcS w hG (fun D i acc H => ∃ rs : List Addr, acc = rs.map V.ref ∧ (∀ r ∈ rs, r ≠ D) ∧ RowsAt H mk rs F i m) (fun _ _ _ _ _ => ⟨[], rfl, fun _ h => by simp at h, rfl, fun _ _ h => by simp at h⟩) ?_ (fun D acc H nD hD sm ⟨rs, e, _, h⟩ => hd D rs H nD sm (e ▸ hD) h)
  rintro D i x H H' acc nD hi hD sm ⟨rs, rfl, rD, rl, hR⟩ y
  refine hs i x H H' _ _ hi sm y fun l H4 s4 nl g4 => ?_
  have lD : l ≠ D := (ne_of_none hD nl).symm
  refine Rd.lcPush (s4 _ _ hD) nD (sm.trans s4) (by rw [List.length_map, sizeLine_eq]; omega) fun G3 g3 off3 => ?_
  refine ⟨rs ++ [l], by rw [List.map_append]; rfl, fun r m => ?_, by rw [List.length_append, rl]; rfl, fun j r e => ?_⟩
  · rcases List.mem_append.mp m with m | m
    · exact rD r m
    · rw [List.mem_singleton.mp m]; exact lD
  · rcases Nat.lt_or_ge j rs.length with c | c
    · rw [List.getElem?_append_left c] at e
      rw [off3 r (rD r (List.mem_of_getElem? e))]
      exact s4 _ _ (hR j r e)
    · rw [List.getElem?_append_right c] at e
      have : j = rs.length := by
        have := (List.getElem?_eq_some_iff.mp e).1
        rw [List.length_singleton] at this
        omega
      subst this
      rw [Nat.sub_self] at e
      cases (Option.some.inj e)
      rw [off3 l lD, rl]
      exact g4
theorem RowsAt.same {H H' : Hp} {mk : List V → HO} {rs : List Addr} {F : Nat → Nat → Nat} {n m : Nat} (h : RowsAt H mk rs F n m) (s : Same H H') : RowsAt H' mk rs F n m := ⟨h.1, fun i r e => s _ _ (h.2 i r e)⟩
theorem RowsAt.lists {H : Hp} {D : Addr} {rs : List Addr} {F : Nat → Nat → Nat} {n : Nat} (hD : H D = some (.lst (rs.map V.ref))) (h : RowsAt H HO.lst rs F n n) : TblL H D n F := ⟨rs, hD, h.1, h.2⟩
theorem RowsAt.tups {K : PySem.W.Frag} {H : Hp} {D : Addr} {rs : List Addr} {F : Nat → Nat → Nat} {n : Nat} (hD : H D = some (.tup (rs.map V.ref))) (h : RowsAt H HO.tup rs F n n) : TblT K H D n F := ⟨rs, .of hD, h.1, fun i r e => .of (h.2 i r e)⟩
/-- [j for j in .. if ..] -/
theorem lcFilt {J : It} {n : Nat} {G : Hp → Prop} {Y : Nat → Hp → V → Hp → Prop} {σ : L2.St} {g : TG} {tt : TT} {te : TE} {vs : List Nat} {H1 : Hp} {Q : VK} (w : Walk J n G Y) (hG : ∀ H, Same H1 H → G H) (f : Nat → Bool) (n1 : n ≤ 1000)
    (hs : ∀ (j : Nat) (x : V) (H H' : Hp) (Q4 : VK) (P5 : Hp → Prop), j < n → Same H1 H → Y j H x H' → (∀ H4, Same H H4 → f j = true → Q4 (.int (j : Nat)) H4) → (∀ H4, Same H H4 → f j = false → P5 H4) → g x (wipe σ vs) H' fun σ2 H2 => wipe σ2 vs = wipe σ vs ∧ tt σ2 H2 fun b H3 => if b = true then te σ2 H3 Q4 else P5 H3)
    (hd : ∀ (D : Addr) (H : Hp), H1 D = none → Same H1 H → H D = some (.lst (natL ((List.range n).filter f))) → Q (.ref D) H) : Rd.Lc J g tt te vs σ H1 Q := by
  refine Rd.lcS w hG (fun D i acc _ => acc = natL ((List.range i).filter f)) (fun _ _ _ _ _ => rfl) ?_ (fun D acc H nD hD sm e => hd D H nD sm (e ▸ hD))
  rintro D i x H H' acc nD hi hD sm rfl y
  have fl := List.length_filter_le f (List.range i)
  rw [List.length_range] at fl
  refine hs i x H H' _ _ hi sm y (fun H4 s4 e => ?_) fun H4 s4 e => ?_
  · exact Rd.lcPush (s4 _ _ hD) nD (sm.trans s4) (by rw [natL_len, sizeLine_eq]; omega) fun _ _ _ => flt_yes e
  · exact ⟨_, s4 _ _ hD, sm.trans s4, flt_no e⟩
theorem walk_nat {K : PySem.W.Frag} {a : Addr} {n : Nat} : Walk (Itl K a) n (fun H => SqL K H a (natL (List.range n))) (YAt (natL (List.range n))) := by
  have h : Walk (Itl K a) (natL (List.range n)).length (fun H => SqL K H a (natL (List.range n))) (YAt (natL (List.range n))) := walk_list
  rwa [natL_len, List.length_range] at h
theorem at_nat {n i : Nat} {x : V} (h : (natL (List.range n))[i]? = some x) : i < n ∧ x = .int (i : Nat) := by
  obtain ⟨j, e, rfl⟩ := natL_get h
  have l := (List.getElem?_eq_some_iff.mp e).1
  rw [List.length_range] at l
  rw [List.getElem?_range l] at e
  cases e
  exact ⟨l, rfl⟩
theorem maxN (i j : Nat) : max (i : Int) (j : Int) = ((Mr.mx i j : Nat) : Int) := by
  unfold Mr.mx
  omega
theorem tup_off {H H' : Hp} {t : Addr} {ys : List V} (ht : H t = some (.lst ys)) (off : ∀ c, c ≠ t → ∀ u, H c = some u → H' c = some u) {r : Addr} {xs : List V} (h : SqT K H r xs) : SqT K H' r xs := by
  rcases h with (h | ⟨o, h⟩) | h
  · exact .inl (.inl (off r (ne_of h ht (fun e => nomatch e)) _ h))
  · exact .inl (.inr ⟨o, off r (ne_of h ht (fun e => nomatch e)) _ h⟩)
  · exact .inr h
theorem row_ne_tape {xs : List Nat} {c : Addr} {rest : List V} : natL xs ≠ V.ref c :: rest := by
  cases xs with
  | nil => exact fun e => nomatch e
  | cons x xs => exact fun e => nomatch e
theorem refs_ne_tape {rs : List Addr} {c : Addr} {i : Int} {rest : List V} : rs.map V.ref ≠ V.ref c :: .int i :: rest := by
  match rs with
  | [] => exact fun e => nomatch e
  | [_] => exact fun e => nomatch e
  | _ :: _ :: _ => exact fun e => nomatch e
theorem TblT.tape {H H' : Hp} {t c a : Addr} {n : Nat} {F : Nat → Nat → Nat} (ht : Tape H t c) (off : Rd.But t H H') (h : TblT K H a n F) : TblT K H' a n F := by
  obtain ⟨ns, x, y, z, u, _, g, _⟩ := ht
  obtain ⟨rs, h1, h2, h3⟩ := h
  have of : ∀ c, c ≠ t → ∀ u, H c = some u → H' c = some u := fun c nc u e => off c u nc e
  exact ⟨rs, tup_off g of h1, h2, fun i r e => tup_off g of (h3 i r e)⟩
theorem TblL.tape {H H' : Hp} {t c a : Addr} {n : Nat} {F : Nat → Nat → Nat} (ht : Tape H t c) (off : Rd.But t H H') (h : TblL H a n F) : TblL H' a n F := by
  obtain ⟨ns, x, y, z, u, _, g, _⟩ := ht
  obtain ⟨rs, h1, h2, h3⟩ := h
  refine ⟨rs, off _ _ (ne_of h1 g fun e => refs_ne_tape (HO.lst.inj e)) h1, h2, fun i r e => off _ _ (ne_of (h3 i r e) g fun e => ?_) (h3 i r e)⟩
  rw [rowV_nat] at e
  exact row_ne_tape (HO.lst.inj e)

end
end W

namespace W
open PySem PySem.Spec PyProof.Rows L2
section
variable {P : Program} {w : World} {K : PySem.W.Frag} {mg : Str → Option Value} {base : Heap}
open Mr (Rk joined joined_lt metF leftF rightF topF)
/-! ### tables as data -/
def rowD (f : Nat → Nat) (n : Nat) : PyData := .tuple (((List.range n).map fun j : Nat => ((f j : Nat) : Int)).map PyData.int)
def tblD (F : Nat → Nat → Nat) (n : Nat) : PyData := .tuple ((List.range n).map fun i => rowD (F i) n)
theorem dpAll_of {H : Hp} : ∀ (rs : List Addr) (ds : List PyData), rs.length = ds.length → (∀ (i : Nat) (r : Addr) (d : PyData), rs[i]? = some r → ds[i]? = some d → Dp K H (.ref r) d) → DpAll K H (rs.map V.ref) ds
  | [], [], _, _ => .nil
  | r :: rs, d :: ds, l, h => .cons (h 0 r d rfl rfl) (dpAll_of rs ds (Nat.succ.inj l) fun i r d a b => h (i + 1) r d a b)
  | [], _ :: _, l, _ => by cases l
  | _ :: _, [], l, _ => by cases l
theorem TblT.dp {H : Hp} {a : Addr} {n : Nat} {F : Nat → Nat → Nat} (h : TblT K H a n F) : Dp K H (.ref a) (tblD F n) := by
  obtain ⟨rs, h1, h2, h3⟩ := h
  refine .tup h1 (dpAll_of rs _ (by rw [h2, List.length_map, List.length_range]) fun i r d a b => ?_)
  have il : i < n := by rw [← h2]; exact (List.getElem?_eq_some_iff.mp a).1
  rw [List.getElem?_map, List.getElem?_range il] at b
  cases (Option.some.inj b)
  exact .tup (h3 i r a) (Rd.dpAll_ints _)
theorem tbl_lay (F : Nat → Nat → Nat) (n : Nat) : ∀ l : List Nat, PyData.canLayAll0 (l.map fun i => rowD (F i) n) = true
  | [] => rfl
  | i :: l => by
    show (PyData.canLay0 (rowD (F i) n) && PyData.canLayAll0 (l.map fun i => rowD (F i) n)) = true
    rw [tbl_lay F n l, Bool.and_true]
    exact Rd.canLay_ints _
theorem tbl_depth (F : Nat → Nat → Nat) (n : Nat) : ∀ l : List Nat, PyData.depthAll (l.map fun i => rowD (F i) n) ≤ 1
  | [] => Nat.le_of_ble_eq_true rfl
  | i :: l => by
    have h := tbl_depth F n l
    show max (PyData.depth (rowD (F i) n)) (PyData.depthAll (l.map fun i => rowD (F i) n)) ≤ 1
    have : PyData.depth (rowD (F i) n) = 1 := by
      show PyData.depthAll _ + 1 = 1
      rw [Rd.depth_ints]
    omega
theorem tblD_lay (F : Nat → Nat → Nat) (n : Nat) : PyData.canLay0 (tblD F n) = true := tbl_lay F n _
theorem tblD_depth (F : Nat → Nat → Nat) (n : Nat) : PyData.depth (tblD F n) ≤ 2 := Nat.succ_le_succ (tbl_depth F n _)
theorem shaped_of {d : PyData} (h1 : PyData.canLay0 d = true) (h2 : PyData.depth d ≤ 4) : SeqAt.shaped d = true := by
  unfold SeqAt.shaped
  rw [h1, decide_eq_true (by omega)]
  rfl
theorem neData {H : Hp} {a b : Addr} {d : PyData} {Q : VK} (h1 : Dp K H (.ref a) d) (h2 : Dp K H (.ref b) d) (h : SeqAt.shaped d = true) (q : Q (.bl false) H) : rNeD K (.ref a) (.ref b) H Q := by
  refine ⟨_, _, h1, h2, h, h, ?_⟩
  rw [SeqAt.eqv_refl _ (SeqAt.canLay_of_shaped h)]
  exact q
theorem eqData {H : Hp} {a b : Addr} {d : PyData} {Q : VK} (h1 : Dp K H (.ref a) d) (h2 : Dp K H (.ref b) d) (h : SeqAt.shaped d = true) (q : Q (.bl true) H) : rEqD K (.ref a) (.ref b) H Q := by
  refine ⟨_, _, h1, h2, h, h, ?_⟩
  rw [SeqAt.eqv_refl _ (SeqAt.canLay_of_shaped h)]
  exact q
/-- whether two tables are the same -/
theorem eqv_rows : ∀ (xs ys : List (List Int)), PyData.eqvAll (xs.map fun l => PyData.tuple (l.map PyData.int)) (ys.map fun l => PyData.tuple (l.map PyData.int)) = decide (xs = ys)
  | [], [] => rfl
  | [], _ :: _ => rfl
  | _ :: _, [] => rfl
  | x :: xs, y :: ys => by
    show (PyData.eqvAll (x.map PyData.int) (y.map PyData.int) && PyData.eqvAll (xs.map fun l => PyData.tuple (l.map PyData.int)) (ys.map fun l => PyData.tuple (l.map PyData.int))) = _
    rw [eqv_rows xs ys, Rd.eqv_ints, Bool.eq_iff_iff]
    simp
def rowsI (F : Nat → Nat → Nat) (n : Nat) : List (List Int) := (List.range n).map fun i => (List.range n).map fun j : Nat => ((F i j : Nat) : Int)
theorem tblD_rows (F : Nat → Nat → Nat) (n : Nat) : tblD F n = .tuple ((rowsI F n).map fun l => PyData.tuple (l.map PyData.int)) := by
  unfold tblD rowsI rowD
  rw [List.map_map]
  rfl
theorem rowsI_eq {F G : Nat → Nat → Nat} {n m : Nat} : rowsI F n = rowsI G m ↔ n = m ∧ ∀ i j, i < n → j < n → F i j = G i j := by
  constructor
  · intro h
    have e : n = m := by
      have := congrArg List.length h
      unfold rowsI at this
      simpa using this
    subst e
    refine ⟨rfl, fun i j hi hj => ?_⟩
    have h1 := congrArg (fun l => (l[i]?).bind fun r => r[j]?) h
    unfold rowsI at h1
    simp [hi, hj] at h1
    omega
  · rintro ⟨rfl, h⟩
    unfold rowsI
    refine List.map_congr_left fun i hi => List.map_congr_left fun j hj => ?_
    rw [h i j (List.mem_range.mp hi) (List.mem_range.mp hj)]
theorem eqv_tblD (F G : Nat → Nat → Nat) (n m : Nat) : PyData.eqv (tblD F n) (tblD G m) = decide (rowsI F n = rowsI G m) := by
  rw [tblD_rows, tblD_rows]
  show PyData.eqvAll _ _ = _
  rw [eqv_rows]
theorem tblD_shaped (F : Nat → Nat → Nat) (n : Nat) : SeqAt.shaped (tblD F n) = true := shaped_of (tblD_lay F n) (Nat.le_trans (tblD_depth F n) (by decide))
theorem neTbl {H : Hp} {a b : Addr} {n m : Nat} {F G : Nat → Nat → Nat} {Q : VK} (h1 : TblT K H a n F) (h2 : TblT K H b m G) (q : Q (.bl (!decide (rowsI F n = rowsI G m))) H) : rNeD K (.ref a) (.ref b) H Q := by
  refine ⟨_, _, h1.dp, h2.dp, tblD_shaped F n, tblD_shaped G m, ?_⟩
  rw [eqv_tblD]
  exact q

end
end W

namespace W
open PySem PySem.Spec PyProof.Rows L2
section
variable {P : Program} {w : World} {K : PySem.W.Frag} {mg : Str → Option Value} {base : Heap}
open Mr (Rk joined joined_lt metF leftF rightF topF)
/-! ### told reckonings: the object -/
/-- an object whose joins and none are there -/
structure Part (K : PySem.W.Frag) (C : Addr) (H : Hp) (b dx : Addr) (fs : List (Str × V)) (n : Nat) (J : Nat → Nat → Nat) (z : Nat) : Prop where
  at_ : H b = some (.ins C dx fs)
  tb : ∃ j, fs.lookup ("joins" : Str) = some (.ref j) ∧ TblT K H j n J
  lz : fs.lookup ("none" : Str) = some (.int (z : Nat))
  nj : fs.lookup ("joined" : Str) = none
  nm : fs.lookup ("met" : Str) = none
  nw : fs.lookup ("is_worth" : Str) = none
  nc : fs.lookup ("check" : Str) = none
  cl : ∀ a b, a < n → b < n → J a b < n
  zn : z < n
  n16 : n ≤ 16
theorem Part.same {K : PySem.W.Frag} {C : Addr} {H H' : Hp} {b dx : Addr} {fs : List (Str × V)} {n z : Nat} {J : Nat → Nat → Nat} (h : Part K C H b dx fs n J z) (s : Same H H') : Part K C H' b dx fs n J z :=
  { h with at_ := s _ _ h.at_, tb := let ⟨j, e, t⟩ := h.tb; ⟨j, e, t.same s⟩ }
def sp_Reckoning_joined (K : PySem.W.Frag) (C : Addr) : Sp := fun vs H Q _ => ∃ (b dx l : Addr) (fs : List (Str × V)) (n z : Nat) (J : Nat → Nat → Nat) (xs : List Nat), vs = [.ref b, .ref l] ∧ Part K C H b dx fs n J z ∧ SqL K H l (natL xs) ∧ (∀ x ∈ xs, x < n) ∧ Q (.int (joined J z xs : Nat)) H
def sp_Reckoning_met (K : PySem.W.Frag) (C : Addr) : Sp := fun vs H Q _ => ∃ (b dx : Addr) (fs : List (Str × V)) (n z x y : Nat) (J : Nat → Nat → Nat), vs = [.ref b, .int (x : Nat), .int (y : Nat)] ∧ Part K C H b dx fs n J z ∧ x < n ∧ y < n ∧ ∀ H', Same H H' → Q (.int (metF n J z x y : Nat)) H'
theorem ok_Reckoning_joined (T : Txt K mg) : FnOk P w K mg base CX0 1 T.f_Reckoning_joined T.fd_Reckoning_joined ["self", "worths"] (sp_Reckoning_joined K T.C_Reckoning) := by
  refine T.F_Reckoning_joined.ok sc_Reckoning_joined (fun vs H Q E h => ?_) (fun cdv A outer s H vs Q E hr h => ?_)
  · obtain ⟨b, dx, l, fs, n, z, J, xs, rfl, _⟩ := h
    rfl
  · obtain ⟨b, dx, l, fs, n, z, J, xs, rfl, pt, hl, hx, k⟩ := h
    refine ⟨_, (pss_cons (ps_set (i := 2) sc_Reckoning_joined.nd rfl (.inl rfl) (pe_fld (pv 0) rfl))
  (pss_cons (ps_for PassesOwn.never rfl (pi_list (pv 1)) (pg_name (i := 3) sc_Reckoning_joined.nd rfl (.inl rfl))
  (pss_one (ps_set (i := 2) sc_Reckoning_joined.nd rfl (.inl rfl) (pe_ix (r := rIxT K) ix_tup (pe_ix (r := rIxT K) ix_tup (pe_fld (pv 0) rfl) (pv 2) (fun _ _ => rfl)) (pv 3) (fun _ _ => rfl)))))
  (pss_one (ps_ret (pv 2))))), ?_⟩
    obtain ⟨j, ej, tj⟩ := pt.tb
    walk_at "rd"
    refine Rd.fld pt.at_ T.cl_Reckoning T.na_Reckoning_none pt.lz ?_
    walk_at "rd"
    refine Rd.forS ?_
    walk_at "rd"
    refine ⟨⟨_, hl⟩, for_list (K := K) (a := l) (xs := natL xs) (fun i σ H' => ∃ (o3 : Option V), σ = [some (.ref b), some (.ref l), some (.int (joined J z (xs.take i) : Nat)), o3] ∧ H' = H) ⟨_, rfl, rfl⟩ (fun i σ H' _ ⟨_, _, e⟩ => e ▸ hl) ?_ ?_⟩
    · rintro i x _ H1 hx1 ⟨o3, rfl, eH⟩
      obtain rfl : H = H1 := eH.symm
      obtain ⟨v, hv, rfl⟩ := natL_get hx1
      have vn := hx v (List.mem_of_getElem? hv)
      have an := joined_lt pt.cl (xs := xs.take i) pt.zn fun y m => hx y (List.mem_of_mem_take m)
      walk_at "rd"
      refine Rd.fld pt.at_ T.cl_Reckoning T.na_Reckoning_joins ej ?_
      walk_at "rd"
      refine tj.two an vn (vr rfl) ?_
      walk_at "rd"
      refine ⟨some (.int (v : Nat)), ?_, rfl⟩
      rw [Rd.take_snoc hv]
      unfold joined
      rw [List.foldl_append]
      rfl
    · rintro _ H1 ⟨o3, rfl, eH⟩
      obtain rfl : H = H1 := eH.symm
      rw [natL_len, List.take_length]
      walk_at "rd"
      exact k
theorem ok_Reckoning_met (T : Txt K mg) : FnOk P w K mg base CX0 2 T.f_Reckoning_met T.fd_Reckoning_met ["self", "a", "b"] (sp_Reckoning_met K T.C_Reckoning) := by
  refine T.F_Reckoning_met.ok sc_Reckoning_met (fun vs H Q E h => ?_) (fun cdv A outer s H vs Q E hr h => ?_)
  · obtain ⟨b, dx, fs, n, z, x, y, J, rfl, _⟩ := h
    rfl
  · obtain ⟨b, dx, fs, n, z, x, y, J, rfl, pt, xn, yn, k⟩ := h
    refine ⟨_, (pss_one (ps_ret (pe_meth (pv 0) T.cl_Reckoning T.h_Reckoning_joined (ok_Reckoning_joined T) (hr.mono (by decide)) T.b_Reckoning_joined .nil pass0 (pa_cons (pe_lc (own := [("x", 3)]) (g := gName 3)  rfl sc_Reckoning_met.nd (pi_range1 rfl T.n_range (pa_cons (pe_callB (id := "len") (r := Rd.nLen K) Rd.c_len (by rfl) T.n_len (by decide +kernel) (pa_cons (pe_fld (pv 0) rfl) pa_nil)) pa_nil)) (blkOk_by (own := [("x", 3)]) (N := ["self", "a", "b", "x"]) (sc := defScope s_Reckoning_met) (by decide +kernel)) (fun _ _ _ _ _ => (pg_name (i := 3) sc_Reckoning_met.nd rfl (.inl rfl))) (fun _ _ _ _ _ => pts_one (PW.pt (pw_and (pt_cmpR op_eq (pe_ix (r := rIxT K) ix_tup (pe_ix (r := rIxT K) ix_tup (pe_fld (pv 0) rfl : PE _ _ (tFld K _ _)) (pv 3) (fun _ _ => rfl)) (pv 1) (fun _ _ => rfl)) (pv 1) (nomark _)) (pw_and1 (pt_cmpR op_eq (pe_ix (r := rIxT K) ix_tup (pe_ix (r := rIxT K) ix_tup (pe_fld (pv 0) rfl : PE _ _ (tFld K _ _)) (pv 3) (fun _ _ => rfl)) (pv 2) (fun _ _ => rfl)) (pv 2) (nomark _)))))) (fun _ _ _ _ _ => (pv 3))) pa_nil)))), ?_⟩
    obtain ⟨j, ej, tj⟩ := pt.tb
    have n16 := pt.n16
    walk_at "rd"
    refine Rd.meth pt.at_ pt.nj ?_
    walk_at "rd"
    refine Rd.fld pt.at_ T.cl_Reckoning T.na_Reckoning_joins ej ?_
    walk_at "rd"
    refine tj.any.len ?_
    walk_at "rd"
    refine ⟨by omega, by omega, ?_⟩
    refine Rd.lcS walk_range (fun _ _ => trivial) (fun D i acc _ => acc = natL ((List.range i).filter fun w => decide (J w x = x) && decide (J w y = y))) (fun _ _ _ _ _ => rfl) ?_ ?_
    · rintro D i v G _ acc nD hi hD sm rfl ⟨rfl, hv⟩
      obtain rfl := rg0 hv
      have il : i < n := hi
      have ptG := pt.same sm
      have tG := tj.same sm
      have fl := List.length_filter_le (fun w => decide (J w x = x) && decide (J w y = y)) (List.range i)
      rw [List.length_range] at fl
      walk_at "rd"
      refine ⟨rfl, ?_⟩
      walk_at "rd"
      refine Rd.fld ptG.at_ T.cl_Reckoning T.na_Reckoning_joins ej ?_
      walk_at "rd"
      refine tG.two il xn (vr rfl) ?_
      walk_at "rd"
      by_cases c1 : J i x = x
      · refine Rd.yes (by omega) ?_
        walk_at "rd"
        refine Rd.fld ptG.at_ T.cl_Reckoning T.na_Reckoning_joins ej ?_
        walk_at "rd"
        refine tG.two il yn (vr rfl) ?_
        walk_at "rd"
        by_cases c2 : J i y = y
        · refine Rd.yes (by omega) ?_
          walk_at "rd"
          exact Rd.lcPush hD nD sm (by rw [natL_len, sizeLine_eq]; omega) fun G2 g2 off2 => flt_yes (by rw [decide_eq_true c1, decide_eq_true c2]; rfl)
        · refine Rd.no (by omega) ?_
          exact ⟨_, hD, sm, flt_no (by rw [decide_eq_false c2, Bool.and_false])⟩
      · refine Rd.no (by omega) ?_
        walk_at "rd"
        exact ⟨_, hD, sm, flt_no (by rw [decide_eq_false c1, Bool.false_and])⟩
    · rintro D acc G nD hD sm rfl
      rw [show ((n : Nat) : Int).toNat = n from rfl] at hD
      walk_at "rd"
      refine ⟨b, dx, D, fs, n, z, J, _, rfl, pt.same sm, .of hD, fun w m => List.mem_range.mp (List.mem_filter.mp m).1, ?_⟩
      exact k _ sm
/-- a told reckoning stands at b -/
def RkAt (K : PySem.W.Frag) (C : Addr) (H : Hp) (b n : Nat) (J M : Nat → Nat → Nat) (z o : Nat) : Prop := ∃ dx j p m l r : Addr, H b = some (.ins C dx [("joins", .ref j), ("products", .ref p), ("none", .int (z : Nat)), ("one", .int (o : Nat)), ("meets", .ref m), ("lefts", .ref l), ("rights", .ref r)]) ∧
  TblT K H j n J ∧ TblT K H p n M ∧ TblL H m n (metF n J z) ∧ TblL H l n (leftF n J M z) ∧ TblL H r n (rightF n J M z)
theorem RkAt.same {K : PySem.W.Frag} {C : Addr} {H H' : Hp} {b n : Nat} {J M : Nat → Nat → Nat} {z o : Nat} (h : RkAt K C H b n J M z o) (s : Same H H') : RkAt K C H' b n J M z o :=
  let ⟨dx, j, p, m, l, r, h0, h1, h2, h3, h4, h5⟩ := h; ⟨dx, j, p, m, l, r, s _ _ h0, h1.same s, h2.same s, h3.same s, h4.same s, h5.same s⟩
theorem tbl_but {K : PySem.W.Frag} {H H' : Hp} {b a C dx : Addr} {fs : List (Str × V)} {n : Nat} {F : Nat → Nat → Nat} (hb : H b = some (.ins C dx fs)) (off : ∀ c, c ≠ b → H' c = H c) (h : TblT K H a n F) : TblT K H' a n F := by
  obtain ⟨rs, h1, h2, h3⟩ := h
  have mv : ∀ {r : Addr} {xs : List V}, SqT K H r xs → SqT K H' r xs := by
    intro r xs h
    rcases h with (h | ⟨o, h⟩) | h
    · exact .inl (.inl (by rw [off r (ne_of h hb (fun e => nomatch e))]; exact h))
    · exact .inl (.inr ⟨o, by rw [off r (ne_of h hb (fun e => nomatch e))]; exact h⟩)
    · exact .inr h
  exact ⟨rs, mv h1, h2, fun i r e => mv (h3 i r e)⟩
theorem tblR_but {K : PySem.W.Frag} {H H' : Hp} {b a C dx : Addr} {fs : List (Str × V)} {n : Nat} {F : Nat → Nat → Nat} (hb : H b = some (.ins C dx fs)) (off : ∀ c, c ≠ b → H' c = H c) (h : Tbl K H a n F) : Tbl K H' a n F := by
  obtain ⟨rs, h1, h2, h3⟩ := h
  have mv : ∀ {r : Addr} {xs : List V}, Ru.SqR K H r xs → Ru.SqR K H' r xs := by
    intro r xs h
    rcases h with h | h
    · rcases h with (h | ⟨o, h⟩) | h
      · exact .inl (.inl (.inl (by rw [off r (ne_of h hb (fun e => nomatch e))]; exact h)))
      · exact .inl (.inl (.inr ⟨o, by rw [off r (ne_of h hb (fun e => nomatch e))]; exact h⟩))
      · exact .inl (.inr h)
    · rcases h with (h | ⟨o, h⟩) | h
      · exact .inr (.inl (.inl (by rw [off r (ne_of h hb (fun e => nomatch e))]; exact h)))
      · exact .inr (.inl (.inr ⟨o, by rw [off r (ne_of h hb (fun e => nomatch e))]; exact h⟩))
      · exact .inr (.inr h)
  exact ⟨rs, mv h1, h2, fun i r e => mv (h3 i r e)⟩
theorem tblL_but {H H' : Hp} {b a C dx : Addr} {fs : List (Str × V)} {n : Nat} {F : Nat → Nat → Nat} (hb : H b = some (.ins C dx fs)) (off : ∀ c, c ≠ b → H' c = H c) (h : TblL H a n F) : TblL H' a n F := by
  obtain ⟨rs, h1, h2, h3⟩ := h
  exact ⟨rs, by rw [off a (ne_of h1 hb (fun e => nomatch e))]; exact h1, h2, fun i r e => by rw [off r (ne_of (h3 i r e) hb (fun e => nomatch e))]; exact h3 i r e⟩
/-- tuple([tuple(row) for row in ..]) -/
theorem lcTups {K : PySem.W.Frag} {a : Addr} {n : Nat} {F : Nat → Nat → Nat} {σ : L2.St} {ta : TE} {g : TG} {tt : TT} {te : TE} {vs : List Nat} {H1 : Hp} {Q : VK} (ea : ∀ Q : VK, Q (.ref a) H1 → ta σ H1 Q) (hT : Tbl K H1 a n F) (n1 : n ≤ 1000)
    (hs : ∀ (r : Addr) (H : Hp) (Q4 : VK) (P5 : Hp → Prop), Same H1 H → Rd.nTupOf K [.ref r] H Q4 → g (.ref r) (wipe σ vs) H fun σ2 H2 => wipe σ2 vs = wipe σ vs ∧ tt σ2 H2 fun b H3 => if b = true then te σ2 H3 Q4 else P5 H3)
    (hd : ∀ (D : Addr) (rs : List Addr) (H : Hp), H1 D = none → Same H1 H → H D = some (.lst (rs.map V.ref)) → rs.length = n → (∀ i r, rs[i]? = some r → SqT K H r (rowV (F i) n)) → Q (.ref D) H) : (fun σ H R => iList K ta σ H R ∨ iTup K ta σ H R) σ H1 fun J H1 => Rd.Lc J g tt te vs σ H1 Q := by
  obtain ⟨qs, hq, ql, hR⟩ := hT
  have mv : ∀ {H G : Hp} {D r : Addr} {ys : List V} {xs : List V}, H D = some (.lst ys) → (∀ b, b ≠ D → G b = H b) → SqT K H r xs → SqT K G r xs := by
    intro H G D r ys xs hD off h
    rcases h with (h | ⟨o, h⟩) | h
    · exact .inl (.inl (by rw [off r (ne_of h hD (fun e => nomatch e))]; exact h))
    · exact .inl (.inr ⟨o, by rw [off r (ne_of h hD (fun e => nomatch e))]; exact h⟩)
    · exact .inr h
  refine Rd.lcRow ea hq (fun D i acc H => ∃ rs : List Addr, acc = rs.map V.ref ∧ rs.length = i ∧ ∀ j r, rs[j]? = some r → SqT K H r (rowV (F j) n)) (fun _ _ _ _ _ => ⟨[], rfl, rfl, fun _ _ h => by simp at h⟩) ?_ ?_
  · rintro D i x H acc nD hi hD sm ⟨rs, rfl, rl, hr⟩ hx
    obtain ⟨q, hqi, rfl⟩ := Rd.map_refG hx
    rw [List.length_map] at hi
    have fin : ∀ (t : Addr) (H4 : Hp), Same H H4 → SqT K H4 t (rowV (F i) n) → Rd.LcPush D H1 (fun i acc H => ∃ rs : List Addr, acc = rs.map V.ref ∧ rs.length = i ∧ ∀ j r, rs[j]? = some r → SqT K H r (rowV (F j) n)) i (.ref t) H4 := by
      intro t H4 s4 ht
      refine Rd.lcPush (s4 _ _ hD) nD (sm.trans s4) (by rw [List.length_map, sizeLine_eq]; omega) fun G3 g3 off3 => ?_
      refine ⟨rs ++ [t], by rw [List.map_append]; rfl, by rw [List.length_append, rl]; rfl, fun j r e => ?_⟩
      rcases Nat.lt_or_ge j rs.length with c | c
      · rw [List.getElem?_append_left c] at e
        exact mv (s4 _ _ hD) off3 (Ru.same_tup s4 (hr j r e))
      · rw [List.getElem?_append_right c] at e
        have : j = rs.length := by
          have := (List.getElem?_eq_some_iff.mp e).1
          rw [List.length_singleton] at this
          omega
        subst this
        rw [Nat.sub_self] at e
        cases (Option.some.inj e)
        rw [rl]
        exact mv (s4 _ _ hD) off3 ht
    refine hs q H _ _ sm ?_
    rcases (hR i q hqi).same sm with h | h
    · exact ⟨q, _, rfl, .inl ⟨h, Rd.new fun p G np gp s4 => fin p G s4 (.of gp)⟩⟩
    · exact ⟨q, _, rfl, .inr ⟨h, fin q H (Same.refl _) h⟩⟩
  · rintro D acc H nD hD sm ⟨rs, rfl, rl, hr⟩
    rw [List.length_map, ql] at rl
    exact hd D rs H nD sm hD rl hr

end
end W

namespace W
open PySem PySem.Spec PyProof.Rows L2
section
variable {P : Program} {w : World} {K : PySem.W.Frag} {mg : Str → Option Value} {base : Heap}
open Mr (Rk joined joined_lt metF leftF rightF topF)
/-! ### told reckonings: made -/
def sp_Reckoning_init (K : PySem.W.Frag) (C : Addr) : Sp := fun vs H Q _ => ∃ (b a c dx : Addr) (n z o : Nat) (J M : Nat → Nat → Nat), vs = [.ref b, .ref a, .ref c, .int (z : Nat), .int (o : Nat)] ∧ H b = some (.ins C dx []) ∧ Tbl K H a n J ∧ Tbl K H c n M ∧ Rk n J M z o ∧ ∀ H', RkAt K C H' b n J M z o → Rd.But b H H' → Q .non H'
theorem ok_Reckoning_init (T : Txt K mg) : FnOk P w K mg base CX0 5 T.f_Reckoning_init T.fd_Reckoning_init ["self", "joins", "products", "none", "one"] (sp_Reckoning_init K T.C_Reckoning) := by
  refine T.F_Reckoning_init.ok sc_Reckoning_init (fun vs H Q E h => ?_) (fun cdv A outer s H vs Q E hr h => ?_)
  · obtain ⟨b, a, c, dx, n, z, o, J, M, rfl, _⟩ := h
    rfl
  · obtain ⟨b, a, c, dx, n, z, o, J, M, rfl, hb, hJ, hM, R, k⟩ := h
    refine ⟨_, (pss_cons (ps_expr (pe_call (ok_check_size T) (hr.mono (by decide)) rfl T.g_check_size T.F_check_size.kp T.b_check_size .nil pass0 (pa_cons (pv 1) (pa_cons (pv 2) (pa_cons (pv 3) (pa_cons (pv 4) pa_nil))))))
  (pss_cons (ps_expr (pe_call (ok_check_singles T) (hr.mono (by decide)) rfl T.g_check_singles T.F_check_singles.kp T.b_check_singles .nil pass0 (pa_cons (pv 1) (pa_cons (pv 2) (pa_cons (pv 3) (pa_cons (pv 4) pa_nil))))))
  (pss_cons (ps_expr (pe_call (ok_check_swaps T) (hr.mono (by decide)) rfl T.g_check_swaps T.F_check_swaps.kp T.b_check_swaps .nil pass0 (pa_cons (pv 1) pa_nil)))
  (pss_cons (ps_expr (pe_call (ok_check_grouping T) (hr.mono (by decide)) rfl T.g_check_grouping T.F_check_grouping.kp T.b_check_grouping .nil pass0 (pa_cons pe_str (pa_cons (pv 1) pa_nil))))
  (pss_cons (ps_expr (pe_call (ok_check_grouping T) (hr.mono (by decide)) rfl T.g_check_grouping T.F_check_grouping.kp T.b_check_grouping .nil pass0 (pa_cons pe_str (pa_cons (pv 2) pa_nil))))
  (pss_cons (ps_expr (pe_call (ok_check_over T) (hr.mono (by decide)) rfl T.g_check_over T.F_check_over.kp T.b_check_over .nil pass0 (pa_cons (pv 1) (pa_cons (pv 2) pa_nil))))
  (pss_cons (ps_if (pt_cmpR op_eq (pv 3) (pv 4) (nomark _))
  (pss_one ps_never)
  pss_nil)
  (pss_cons (ps_fld (pv 0) (pe_callTy (T := "tuple") (r := Rd.nTupOf K) Rd.c_tupOf (by rfl) T.n_tuple (by decide +kernel) (pa_cons (pe_lc (own := [("row", 8)]) (g := gName 8) (tt := tYes) rfl sc_Reckoning_init.nd (Ru.pi_or (pi_list (pv 1)) (pi_tup (pv 1))) (blkOk_by (own := [("row", 8)]) (N := ["self", "joins", "products", "none", "one", "size", "a", "c", "row", "b"]) (sc := defScope s_Reckoning_init) (by decide +kernel)) (fun _ _ _ _ _ => (pg_name (i := 8) sc_Reckoning_init.nd rfl (.inl rfl))) (fun _ _ _ _ _ => pts_nil) (fun _ _ _ _ _ => (pe_callTy (T := "tuple") (r := Rd.nTupOf K) Rd.c_tupOf (by rfl) T.n_tuple (by decide +kernel) (pa_cons (pv 8) pa_nil)))) pa_nil)) rfl)
  (pss_cons (ps_fld (pv 0) (pe_callTy (T := "tuple") (r := Rd.nTupOf K) Rd.c_tupOf (by rfl) T.n_tuple (by decide +kernel) (pa_cons (pe_lc (own := [("row", 8)]) (g := gName 8) (tt := tYes) rfl sc_Reckoning_init.nd (Ru.pi_or (pi_list (pv 2)) (pi_tup (pv 2))) (blkOk_by (own := [("row", 8)]) (N := ["self", "joins", "products", "none", "one", "size", "a", "c", "row", "b"]) (sc := defScope s_Reckoning_init) (by decide +kernel)) (fun _ _ _ _ _ => (pg_name (i := 8) sc_Reckoning_init.nd rfl (.inl rfl))) (fun _ _ _ _ _ => pts_nil) (fun _ _ _ _ _ => (pe_callTy (T := "tuple") (r := Rd.nTupOf K) Rd.c_tupOf (by rfl) T.n_tuple (by decide +kernel) (pa_cons (pv 8) pa_nil)))) pa_nil)) rfl)
  (pss_cons (ps_fld (pv 0) (pv 3) rfl)
  (pss_cons (ps_fld (pv 0) (pv 4) rfl)
  (pss_cons (ps_set (i := 5) sc_Reckoning_init.nd rfl (.inr rfl) (pe_listRg rfl (by rfl) T.n_list (prg_1 (by rfl) T.n_range (pe_callB (id := "len") (r := Rd.nLen K) Rd.c_len (by rfl) T.n_len (by decide +kernel) (pa_cons (pv 1) pa_nil)))))
  (pss_cons (ps_fld (pv 0) (pe_lc (own := [("a", 6)]) (g := gName 6) (tt := tYes) rfl sc_Reckoning_init.nd (pi_list (pv 5)) (blkOk_by (own := [("a", 6)]) (N := ["self", "joins", "products", "none", "one", "size", "a", "c", "row", "b"]) (sc := defScope s_Reckoning_init) (by decide +kernel)) (fun _ _ _ _ _ => (pg_name (i := 6) sc_Reckoning_init.nd rfl (by first | exact .inl rfl | exact .inr rfl))) (fun _ _ _ _ _ => pts_nil) (fun _ _ _ _ _ => (by exact (pe_lc (own := [("b", 9)]) (g := gName 9) (tt := tYes) rfl sc_Reckoning_init.nd (Ry.pi_listK (K := K) rfl (pv 5)) (blkOk_by (own := [("b", 9)]) (N := ["self", "joins", "products", "none", "one", "size", "a", "c", "row", "b"]) (by rfl)) (fun _ _ _ _ _ => (pg_name (i := 9) sc_Reckoning_init.nd rfl (by first | exact .inl rfl | exact .inr rfl))) (fun _ _ _ _ _ => pts_nil) (fun _ _ _ _ _ => (pe_meth (pv 0) T.cl_Reckoning T.h_Reckoning_met (ok_Reckoning_met T) (hr.mono (by decide)) T.b_Reckoning_met .nil pass0 (pa_cons (pv 6) (pa_cons (pv 9) pa_nil)))))))) rfl)
  (pss_cons (ps_fld (pv 0) (pe_lc (own := [("a", 6)]) (g := gName 6) (tt := tYes) rfl sc_Reckoning_init.nd (pi_list (pv 5)) (blkOk_by (own := [("a", 6)]) (N := ["self", "joins", "products", "none", "one", "size", "a", "c", "row", "b"]) (sc := defScope s_Reckoning_init) (by decide +kernel)) (fun _ _ _ _ _ => (pg_name (i := 6) sc_Reckoning_init.nd rfl (by first | exact .inl rfl | exact .inr rfl))) (fun _ _ _ _ _ => pts_nil) (fun _ _ _ _ _ => (by exact (pe_lc (own := [("c", 7)]) (g := gName 7) (tt := tYes) rfl sc_Reckoning_init.nd (Ry.pi_listK (K := K) rfl (pv 5)) (blkOk_by (own := [("c", 7)]) (N := ["self", "joins", "products", "none", "one", "size", "a", "c", "row", "b"]) (by rfl)) (fun _ _ _ _ _ => (pg_name (i := 7) sc_Reckoning_init.nd rfl (by first | exact .inl rfl | exact .inr rfl))) (fun _ _ _ _ _ => pts_nil) (fun _ _ _ _ _ => (pe_meth (pv 0) T.cl_Reckoning T.h_Reckoning_joined (ok_Reckoning_joined T) (hr.mono (by decide)) T.b_Reckoning_joined .nil pass0 (pa_cons (by exact (pe_lc (own := [("b", 9)]) (g := gName 9)  rfl sc_Reckoning_init.nd (Ry.pi_listK (K := K) rfl (pv 5)) (blkOk_by (own := [("b", 9)]) (N := ["self", "joins", "products", "none", "one", "size", "a", "c", "row", "b"]) (by rfl)) (fun _ _ _ _ _ => (pg_name (i := 9) sc_Reckoning_init.nd rfl (by first | exact .inl rfl | exact .inr rfl))) (fun _ _ _ _ _ => pts_one (pt_cmpR op_eq (pe_ix (r := fun x y H Q => rIxL K x y H Q ∨ rIxT K x y H Q) (IxR.or ix_list ix_tup) (pe_ix (r := fun x y H Q => rIxL K x y H Q ∨ rIxT K x y H Q) (IxR.or ix_list ix_tup) (pv 1) (pe_ix (r := fun x y H Q => rIxL K x y H Q ∨ rIxT K x y H Q) (IxR.or ix_list ix_tup) (pe_ix (r := fun x y H Q => rIxL K x y H Q ∨ rIxT K x y H Q) (IxR.or ix_list ix_tup) (pv 2) (pv 6) (fun _ _ => rfl)) (pv 9) (fun _ _ => rfl)) (fun _ _ => rfl)) (pv 7) (fun _ _ => rfl)) (pv 7) (nomark _))) (fun _ _ _ _ _ => (pv 9)))) pa_nil))))))) rfl)
  (pss_one (ps_fld (pv 0) (pe_lc (own := [("c", 7)]) (g := gName 7) (tt := tYes) rfl sc_Reckoning_init.nd (pi_list (pv 5)) (blkOk_by (own := [("c", 7)]) (N := ["self", "joins", "products", "none", "one", "size", "a", "c", "row", "b"]) (sc := defScope s_Reckoning_init) (by decide +kernel)) (fun _ _ _ _ _ => (pg_name (i := 7) sc_Reckoning_init.nd rfl (by first | exact .inl rfl | exact .inr rfl))) (fun _ _ _ _ _ => pts_nil) (fun _ _ _ _ _ => (by exact (pe_lc (own := [("a", 6)]) (g := gName 6) (tt := tYes) rfl sc_Reckoning_init.nd (Ry.pi_listK (K := K) rfl (pv 5)) (blkOk_by (own := [("a", 6)]) (N := ["self", "joins", "products", "none", "one", "size", "a", "c", "row", "b"]) (by rfl)) (fun _ _ _ _ _ => (pg_name (i := 6) sc_Reckoning_init.nd rfl (by first | exact .inl rfl | exact .inr rfl))) (fun _ _ _ _ _ => pts_nil) (fun _ _ _ _ _ => (pe_meth (pv 0) T.cl_Reckoning T.h_Reckoning_joined (ok_Reckoning_joined T) (hr.mono (by decide)) T.b_Reckoning_joined .nil pass0 (pa_cons (by exact (pe_lc (own := [("b", 9)]) (g := gName 9)  rfl sc_Reckoning_init.nd (Ry.pi_listK (K := K) rfl (pv 5)) (blkOk_by (own := [("b", 9)]) (N := ["self", "joins", "products", "none", "one", "size", "a", "c", "row", "b"]) (by rfl)) (fun _ _ _ _ _ => (pg_name (i := 9) sc_Reckoning_init.nd rfl (by first | exact .inl rfl | exact .inr rfl))) (fun _ _ _ _ _ => pts_one (pt_cmpR op_eq (pe_ix (r := fun x y H Q => rIxL K x y H Q ∨ rIxT K x y H Q) (IxR.or ix_list ix_tup) (pe_ix (r := fun x y H Q => rIxL K x y H Q ∨ rIxT K x y H Q) (IxR.or ix_list ix_tup) (pv 1) (pe_ix (r := fun x y H Q => rIxL K x y H Q ∨ rIxT K x y H Q) (IxR.or ix_list ix_tup) (pe_ix (r := fun x y H Q => rIxL K x y H Q ∨ rIxT K x y H Q) (IxR.or ix_list ix_tup) (pv 2) (pv 9) (fun _ _ => rfl)) (pv 6) (fun _ _ => rfl)) (fun _ _ => rfl)) (pv 7) (fun _ _ => rfl)) (pv 7) (nomark _))) (fun _ _ _ _ _ => (pv 9)))) pa_nil))))))) rfl)))))))))))))))), ?_⟩
    have n16 := R.n16
    have zn := R.zn
    walk_at "rd"
    refine ⟨a, c, n, z, o, J, M, rfl, hJ, hM, R, fun _ H1 s1 => ?_⟩
    walk_at "rd"
    refine ⟨a, c, n, z, o, J, M, rfl, hJ.same s1, hM.same s1, R, fun _ H2 s2 => ?_⟩
    have s02 := s1.trans s2
    walk_at "rd"
    refine ⟨a, n, J, rfl, hJ.same s02, n16, R.swap, fun _ H3 s3 => ?_⟩
    have s03 := s02.trans s3
    walk_at "rd"
    refine ⟨_, a, n, J, rfl, hJ.same s03, n16, R.jn, R.jass, fun _ H4 s4 => ?_⟩
    have s04 := s03.trans s4
    walk_at "rd"
    refine ⟨_, c, n, M, rfl, hM.same s04, n16, R.mn, R.mass, fun _ H5 s5 => ?_⟩
    have s05 := s04.trans s5
    walk_at "rd"
    refine ⟨a, c, n, z, o, J, M, rfl, hJ.same s05, hM.same s05, R, fun _ H6 s6 => ?_⟩
    have s06 := s05.trans s6
    have hb6 := s06 _ _ hb
    have hJ6 := hJ.same s06
    have hM6 := hM.same s06
    clear s1 s2 s3 s4 s5 s6 s02 s03 s04 s05
    walk_at "rd"
    refine Rd.no (by have := R.ne; omega) ?_
    walk_at "rd"
    refine lcTups (vr rfl) hJ6 (by omega) (fun r H Q4 P5 sm q => ?_) fun D rs H7 nD s7 hD rl hR => ?_
    · walk_at "rd"
      refine ⟨rfl, ?_⟩
      walk_at "rd"
      exact q
    walk_at "rd"
    refine Rd.tupOf (.of hD) (Rd.new fun j G1 nj gj s8 => ?_)
    have tJ : TblT K G1 j n J := ⟨rs, .of gj, rl, fun i r e => Ru.same_tup s8 (hR i r e)⟩
    have s78 := s7.trans s8
    walk_at "rd"
    refine Rd.sfld (s78 _ _ hb6) T.cl_Reckoning T.na_Reckoning_joins (by decide) (show _ = [(("joins" : Str), V.ref j)] from rfl) fun G2 g2 off2 => ?_
    have tJ2 := tbl_but (s78 _ _ hb6) off2 tJ
    have hJ2 := tblR_but (s78 _ _ hb6) off2 (hJ6.same s78)
    have hM2 := tblR_but (s78 _ _ hb6) off2 (hM6.same s78)
    have b2 : Rd.But b H G2 := fun x u nx e => by
      rw [off2 x nx]
      exact s78 _ _ (s06 _ _ e)
    clear s7 s8 s78 tJ hD hR nD nj gj hJ6 hM6 hb6 s06 off2
    walk_at "rd"
    refine lcTups (vr rfl) hM2 (by omega) (fun r H Q4 P5 sm q => ?_) fun D rs H7 nD s7 hD rl hR => ?_
    · walk_at "rd"
      refine ⟨rfl, ?_⟩
      walk_at "rd"
      exact q
    walk_at "rd"
    refine Rd.tupOf (.of hD) (Rd.new fun p G1 np gp s8 => ?_)
    have tM : TblT K G1 p n M := ⟨rs, .of gp, rl, fun i r e => Ru.same_tup s8 (hR i r e)⟩
    have s78 := s7.trans s8
    walk_at "rd"
    refine Rd.sfld (s78 _ _ g2) T.cl_Reckoning T.na_Reckoning_products (by simp) (show _ = [(("joins" : Str), V.ref j), ("products", .ref p)] from rfl) fun G3 g3 off3 => ?_
    have tM3 := tbl_but (s78 _ _ g2) off3 tM
    have tJ3 := tbl_but (s78 _ _ g2) off3 (tJ2.same s78)
    have hJ3 := tblR_but (s78 _ _ g2) off3 (hJ2.same s78)
    have hM3 := tblR_but (s78 _ _ g2) off3 (hM2.same s78)
    have b3 : Rd.But b H G3 := fun x u nx e => by
      rw [off3 x nx]
      exact s78 _ _ (b2 x u nx e)
    clear s7 s8 s78 tM hD hR nD np gp hJ2 hM2 tJ2 g2 b2 off3
    walk_at "rd"
    refine Rd.sfld g3 T.cl_Reckoning T.na_Reckoning_none (by simp) (show _ = [(("joins" : Str), V.ref j), ("products", .ref p), ("none", .int (z : Nat))] from rfl) fun G4 g4 off4 => ?_
    walk_at "rd"
    refine Rd.sfld g4 T.cl_Reckoning T.na_Reckoning_one (by simp) (show _ = [(("joins" : Str), V.ref j), ("products", .ref p), ("none", .int (z : Nat)), ("one", .int (o : Nat))] from rfl) fun G5 g5 off5 => ?_
    have tM5 := tbl_but g4 off5 (tbl_but g3 off4 tM3)
    have tJ5 := tbl_but g4 off5 (tbl_but g3 off4 tJ3)
    have hM5 := tblR_but g4 off5 (tblR_but g3 off4 hM3)
    have hJ5 := tblR_but g4 off5 (tblR_but g3 off4 hJ3)
    have b5 : Rd.But b H G5 := fun x u nx e => by
      rw [off5 x nx, off4 x nx]
      exact b3 x u nx e
    clear g3 g4 off4 off5 b3 tM3 tJ3 hM3 hJ3
    walk_at "rd"
    refine hJ5.len ?_
    walk_at "rd"
    refine ⟨⟨by omega, by omega⟩, Rd.new fun sl G6 nsl gsl s6 => ?_⟩
    rw [Rd.rgV0] at gsl
    have gsl : G6 sl = some (.lst (natL (List.range n))) := gsl
    have g6 := s6 _ _ g5
    have tM6 := tM5.same s6
    have tJ6 := tJ5.same s6
    have hM6 := hM5.same s6
    have hJ6 := hJ5.same s6
    have b6 : Rd.But b H G6 := b5.same s6
    clear g5 tM5 tJ5 hM5 hJ5 b5 s6
    have sb : sl ≠ b := ne_of gsl g6 (fun e => nomatch e)
    have pt6 : Part K T.C_Reckoning G6 b dx [(("joins" : Str), V.ref j), ("products", .ref p), ("none", .int (z : Nat)), ("one", .int (o : Nat))] n J z := ⟨g6, ⟨j, rfl, tJ6⟩, rfl, rfl, rfl, rfl, rfl, R.jn, zn, n16⟩
    -- meets
    walk_at "rd"
    refine ⟨⟨_, .of gsl⟩, lcTbl walk_nat (fun _ s => .of (s _ _ gsl)) HO.lst (metF n J z) n (by omega) (fun i x Hc _ Q4 P5 hi sm y q => ?_) fun D rs H7 nD s7 hD hR => ?_⟩
    · obtain ⟨rfl, hx⟩ := y
      obtain ⟨_, rfl⟩ := at_nat hx
      walk_at "rd"
      refine ⟨rfl, ?_⟩
      walk_at "rd"
      refine ⟨⟨_, .of (sm _ _ gsl)⟩, lcNums walk_nat (fun _ s => .of (s _ _ (sm _ _ gsl))) (metF n J z i) (by omega) (fun w x Hd _ Q6 P7 hw sm2 y q2 => ?_) fun D2 H8 nD2 s8 hD2 => q D2 H8 s8 nD2 hD2⟩
      obtain ⟨rfl, hx⟩ := y
      obtain ⟨_, rfl⟩ := at_nat hx
      walk_at "rd"
      refine ⟨rfl, ?_⟩
      walk_at "rd"
      have pt := pt6.same (sm.trans sm2)
      refine Rd.meth pt.at_ pt.nm ?_
      walk_at "rd"
      exact ⟨b, dx, _, n, z, i, w, J, rfl, pt, hi, hw, fun H4 s4 => q2 H4 s4⟩
    have tm : TblL H7 D n (metF n J z) := hR.lists hD
    walk_at "rd"
    refine Rd.sfld (s7 _ _ g6) T.cl_Reckoning T.na_Reckoning_meets (by simp) (show _ = [(("joins" : Str), V.ref j), ("products", .ref p), ("none", .int (z : Nat)), ("one", .int (o : Nat)), ("meets", .ref D)] from rfl) fun G8 g8 off8 => ?_
    have tm8 := tblL_but (s7 _ _ g6) off8 tm
    have tM8 := tbl_but (s7 _ _ g6) off8 (tM6.same s7)
    have tJ8 := tbl_but (s7 _ _ g6) off8 (tJ6.same s7)
    have hM8 := tblR_but (s7 _ _ g6) off8 (hM6.same s7)
    have hJ8 := tblR_but (s7 _ _ g6) off8 (hJ6.same s7)
    have gsl8 : G8 sl = some (.lst (natL (List.range n))) := by
      rw [off8 sl sb]
      exact s7 _ _ gsl
    have b8 : Rd.But b H G8 := fun x u nx e => by
      rw [off8 x nx]
      exact s7 _ _ (b6 x u nx e)
    have pt8 : Part K T.C_Reckoning G8 b dx ([(("joins" : Str), V.ref j), ("products", .ref p), ("none", .int (z : Nat)), ("one", .int (o : Nat)), ("meets", .ref D)]) n J z := ⟨g8, ⟨j, rfl, tJ8⟩, rfl, rfl, rfl, rfl, rfl, R.jn, zn, n16⟩
    clear pt6 tm tM6 tJ6 hM6 hJ6 b6 g6 s7 hR hD nD off8 gsl
    -- lefts
    walk_at "rd"
    refine ⟨⟨_, .of gsl8⟩, lcTbl walk_nat (fun _ s => .of (s _ _ gsl8)) HO.lst (leftF n J M z) n (by omega) (fun i x Hc _ Q4 P5 hi sm y q => ?_) fun L rs H7 nD s7 hD hR => ?_⟩
    · obtain ⟨rfl, hx⟩ := y
      obtain ⟨_, rfl⟩ := at_nat hx
      walk_at "rd"
      refine ⟨rfl, ?_⟩
      walk_at "rd"
      refine ⟨⟨_, .of (sm _ _ gsl8)⟩, lcNums walk_nat (fun _ s => .of (s _ _ (sm _ _ gsl8))) (leftF n J M z i) (by omega) (fun w x Hd _ Q6 P7 hw sm2 y q2 => ?_) fun D2 H8 nD2 s8 hD2 => q D2 H8 s8 nD2 hD2⟩
      obtain ⟨rfl, hx⟩ := y
      obtain ⟨_, rfl⟩ := at_nat hx
      walk_at "rd"
      refine ⟨rfl, ?_⟩
      walk_at "rd"
      have s12 := sm.trans sm2
      have pt := pt8.same s12
      refine Rd.meth pt.at_ pt.nj ?_
      walk_at "rd"
      refine ⟨⟨_, .of (s12 _ _ gsl8)⟩, lcFilt walk_nat (fun _ s => .of (s _ _ (s12 _ _ gsl8))) (fun v => decide (J (M i v) w = w)) (by omega) (fun v x He _ Q8 P9 hv sm3 y qy qn => ?_) fun D3 H9 nD3 s9 hD3 => ?_⟩
      · obtain ⟨rfl, hx⟩ := y
        obtain ⟨_, rfl⟩ := at_nat hx
        have s13 := s12.trans sm3
        walk_at "rd"
        refine ⟨rfl, ?_⟩
        walk_at "rd"
        refine (hM8.same s13).two hi hv (vr rfl) ?_
        refine (hJ8.same s13).two (R.mn i v hi hv) hw (vr rfl) ?_
        walk_at "rd"
        by_cases c1 : J (M i v) w = w
        · refine Rd.yes (by omega) ?_
          walk_at "rd"
          exact qy _ (Same.refl _) (decide_eq_true c1)
        · refine Rd.no (by omega) ?_
          exact qn _ (Same.refl _) (decide_eq_false c1)
      · walk_at "rd"
        exact ⟨b, dx, D3, _, n, z, J, _, rfl, pt.same s9, .of hD3, fun w m => List.mem_range.mp (List.mem_filter.mp m).1, q2 _ s9⟩
    have tl : TblL H7 L n (leftF n J M z) := hR.lists hD
    walk_at "rd"
    refine Rd.sfld (s7 _ _ g8) T.cl_Reckoning T.na_Reckoning_lefts (by simp) (show _ = [(("joins" : Str), V.ref j), ("products", .ref p), ("none", .int (z : Nat)), ("one", .int (o : Nat)), ("meets", .ref D), ("lefts", .ref L)] from rfl) fun G9 g9 off9 => ?_
    have tl9 := tblL_but (s7 _ _ g8) off9 tl
    have tm9 := tblL_but (s7 _ _ g8) off9 (tm8.same s7)
    have tM9 := tbl_but (s7 _ _ g8) off9 (tM8.same s7)
    have tJ9 := tbl_but (s7 _ _ g8) off9 (tJ8.same s7)
    have hM9 := tblR_but (s7 _ _ g8) off9 (hM8.same s7)
    have hJ9 := tblR_but (s7 _ _ g8) off9 (hJ8.same s7)
    have gsl9 : G9 sl = some (.lst (natL (List.range n))) := by
      rw [off9 sl sb]
      exact s7 _ _ gsl8
    have b9 : Rd.But b H G9 := fun x u nx e => by
      rw [off9 x nx]
      exact s7 _ _ (b8 x u nx e)
    have pt9 : Part K T.C_Reckoning G9 b dx ([(("joins" : Str), V.ref j), ("products", .ref p), ("none", .int (z : Nat)), ("one", .int (o : Nat)), ("meets", .ref D), ("lefts", .ref L)]) n J z := ⟨g9, ⟨j, rfl, tJ9⟩, rfl, rfl, rfl, rfl, rfl, R.jn, zn, n16⟩
    clear pt8 tl tm8 tM8 tJ8 hM8 hJ8 b8 g8 s7 hR hD nD off9 gsl8
    -- rights
    walk_at "rd"
    refine ⟨⟨_, .of gsl9⟩, lcTbl walk_nat (fun _ s => .of (s _ _ gsl9)) HO.lst (rightF n J M z) n (by omega) (fun i x Hc _ Q4 P5 hi sm y q => ?_) fun E1 rs H7 nD s7 hD hR => ?_⟩
    · obtain ⟨rfl, hx⟩ := y
      obtain ⟨_, rfl⟩ := at_nat hx
      walk_at "rd"
      refine ⟨rfl, ?_⟩
      walk_at "rd"
      refine ⟨⟨_, .of (sm _ _ gsl9)⟩, lcNums walk_nat (fun _ s => .of (s _ _ (sm _ _ gsl9))) (rightF n J M z i) (by omega) (fun w x Hd _ Q6 P7 hw sm2 y q2 => ?_) fun D2 H8 nD2 s8 hD2 => q D2 H8 s8 nD2 hD2⟩
      obtain ⟨rfl, hx⟩ := y
      obtain ⟨_, rfl⟩ := at_nat hx
      walk_at "rd"
      refine ⟨rfl, ?_⟩
      walk_at "rd"
      have s12 := sm.trans sm2
      have pt := pt9.same s12
      refine Rd.meth pt.at_ pt.nj ?_
      walk_at "rd"
      refine ⟨⟨_, .of (s12 _ _ gsl9)⟩, lcFilt walk_nat (fun _ s => .of (s _ _ (s12 _ _ gsl9))) (fun v => decide (J (M v w) i = i)) (by omega) (fun v x He _ Q8 P9 hv sm3 y qy qn => ?_) fun D3 H9 nD3 s9 hD3 => ?_⟩
      · obtain ⟨rfl, hx⟩ := y
        obtain ⟨_, rfl⟩ := at_nat hx
        have s13 := s12.trans sm3
        walk_at "rd"
        refine ⟨rfl, ?_⟩
        walk_at "rd"
        refine (hM9.same s13).two hv hw (vr rfl) ?_
        refine (hJ9.same s13).two (R.mn v w hv hw) hi (vr rfl) ?_
        walk_at "rd"
        by_cases c1 : J (M v w) i = i
        · refine Rd.yes (by omega) ?_
          walk_at "rd"
          exact qy _ (Same.refl _) (decide_eq_true c1)
        · refine Rd.no (by omega) ?_
          exact qn _ (Same.refl _) (decide_eq_false c1)
      · walk_at "rd"
        exact ⟨b, dx, D3, _, n, z, J, _, rfl, pt.same s9, .of hD3, fun w m => List.mem_range.mp (List.mem_filter.mp m).1, q2 _ s9⟩
    have te : TblL H7 E1 n (rightF n J M z) := hR.lists hD
    walk_at "rd"
    refine Rd.sfld (s7 _ _ g9) T.cl_Reckoning T.na_Reckoning_rights (by simp) (show _ = [(("joins" : Str), V.ref j), ("products", .ref p), ("none", .int (z : Nat)), ("one", .int (o : Nat)), ("meets", .ref D), ("lefts", .ref L), ("rights", .ref E1)] from rfl) fun G10 g10 off10 => ?_
    walk_at "rd"
    refine k _ ⟨dx, j, p, D, L, E1, g10, tbl_but (s7 _ _ g9) off10 (tJ9.same s7), tbl_but (s7 _ _ g9) off10 (tM9.same s7), tblL_but (s7 _ _ g9) off10 (tm9.same s7), tblL_but (s7 _ _ g9) off10 (tl9.same s7), tblL_but (s7 _ _ g9) off10 te⟩ fun x u nx e => ?_
    rw [off10 x nx]
    exact s7 _ _ (b9 x u nx e)

end
end W

namespace W
open PySem PySem.Spec PyProof.Rows L2
section
variable {P : Program} {w : World} {K : PySem.W.Frag} {mg : Str → Option Value} {base : Heap}
/-! ### own == handed anything -/
theorem sub_ne {K : PySem.W.Frag} {C D : Addr} (h1 : PySem.W.subIn K (.ref C) (.ref C) = some true) (h2 : PySem.W.subIn K (.ref D) (.ref C) = some false) : (Value.ref D == Value.ref C) = false := by
  by_cases e : D = C
  · subst e
    rw [h1] at h2
    cases h2
  · simp [e]
/-- x is of a type of which C tells r -/
def Of (K : PySem.W.Frag) (H : Hp) (C : Addr) (x : V) (r : Bool) : Prop := ∃ t, TyX K H x t ∧ PySem.W.kitOne K t (.ref C) = some r
theorem Of.ask {C : Addr} {H : Hp} {x : V} {r : Bool} {Q : VK} (h : Of K H C x r) (q : Q (.bl r) H) : rIsi K [x, .ref C] H Q := let ⟨_, t, k⟩ := h; ⟨_, _, _, _, r, rfl, .own _, t, k, q⟩
theorem Of.kind {C : Addr} {H : Hp} {x : V} {k : Rx.Kd} (ic : PySem.W.isClsIn K C = true) (tc : PySem.W.typeIn K (.ref C) = some (.type "type")) (h : Rx.Is H x k) : Of K H C x false := ⟨_, h.ty, by cases k <;> exact Rp.kitB_own ic tc rfl⟩
theorem Of.own {C a dx : Addr} {fs : List (Str × V)} {H : Hp} (c : Cls K C) (o : OwnTy K C) (e : H a = some (.ins C dx fs)) : Of K H C (.ref a) true := ⟨_, .base (.ins e c o.ha o.hn o.htk o.hm), kit_self⟩
theorem Of.other {C D a dx : Addr} {fs : List (Str × V)} {H : Hp} (ic : PySem.W.isClsIn K C = true) (tc : PySem.W.typeIn K (.ref C) = some (.type "type")) (sl : PySem.W.subIn K (.ref C) (.ref C) = some true) (s : PySem.W.subIn K (.ref D) (.ref C) = some false) (c : Cls K D) (o : OwnTy K D) (e : H a = some (.ins D dx fs)) : Of K H C (.ref a) false :=
  ⟨_, .base (.ins e c o.ha o.hn o.htk o.hm), Rp.kitO_own ic tc s (sub_ne sl s)⟩
def sp_Lengths_eq (K : PySem.W.Frag) (C : Addr) : Sp := fun vs H Q _ => ∃ (x y : V) (r : Bool), vs = [x, y] ∧ Of K H C y r ∧ Q (.bl r) H
def sp_Numbers_eq (K : PySem.W.Frag) (C : Addr) : Sp := fun vs H Q _ => ∃ (x y : V) (r : Bool), vs = [x, y] ∧ Of K H C y r ∧ Q (.bl r) H
theorem ok_Lengths_eq (T : Txt K mg) : FnOk P w K mg base CX0 1 T.f_Lengths_eq T.fd_Lengths_eq ["self", "other"] (sp_Lengths_eq K T.C_Lengths) := by
  refine T.F_Lengths_eq.ok sc_Lengths_eq (fun vs H Q E h => ?_) (fun cdv A outer s H vs Q E hr h => ?_)
  · obtain ⟨x, y, r, rfl, _⟩ := h
    rfl
  · obtain ⟨x, y, r, rfl, ty, k⟩ := h
    refine ⟨_, (pss_one (ps_ret (pe_callB (id := "isinstance") (r := rIsi K) call_isi (by rfl) T.n_isinstance (by decide +kernel) (pa_cons (pv 1) (pa_cons (pe_glob (v := .ref T.C_Lengths) rfl T.c_Lengths rfl) pa_nil))))), ?_⟩
    walk_at "rd"
    refine ty.ask ?_
    exact k
theorem ok_Numbers_eq (T : Txt K mg) : FnOk P w K mg base CX0 1 T.f_Numbers_eq T.fd_Numbers_eq ["self", "other"] (sp_Numbers_eq K T.C_Numbers) := by
  refine T.F_Numbers_eq.ok sc_Numbers_eq (fun vs H Q E h => ?_) (fun cdv A outer s H vs Q E hr h => ?_)
  · obtain ⟨x, y, r, rfl, _⟩ := h
    rfl
  · obtain ⟨x, y, r, rfl, ty, k⟩ := h
    refine ⟨_, (pss_one (ps_ret (pe_callB (id := "isinstance") (r := rIsi K) call_isi (by rfl) T.n_isinstance (by decide +kernel) (pa_cons (pv 1) (pa_cons (pe_glob (v := .ref T.C_Numbers) rfl T.c_Numbers rfl) pa_nil))))), ?_⟩
    walk_at "rd"
    refine ty.ask ?_
    exact k
/-- an instance on the left, something else on the right: what the own == tells -/
theorem oxOf {C a dx : Addr} {fs : List (Str × V)} {H : Hp} {y : V} {t : Value} {sp : Sp} {Q : VK} (e : H a = some (.ins C dx fs)) (ty : TyX K H y t) (nf : PySem.W.notFirst K C t = true) (h : sp [.ref a, y] H (fun v H' => ∃ k, v = .bl k ∧ Q (.bl k) H') E0) : Rp.rOX K C sp E0 (.ref a) y H Q :=
  ⟨a, dx, fs, t, rfl, e, ty, nf, h⟩

end
end W

namespace W
open PySem PySem.Spec PyProof.Rows L2
section
variable {P : Program} {w : World} {K : PySem.W.Frag} {mg : Str → Option Value} {base : Heap}
open Mr (Rk joined joined_lt metF leftF rightF topF)
/-! ### told reckonings compared -/
def SameR (n m : Nat) (J M J' M' : Nat → Nat → Nat) (z o z' o' : Nat) : Prop := (n = m ∧ ∀ i j, i < n → j < n → J i j = J' i j) ∧ (n = m ∧ ∀ i j, i < n → j < n → M i j = M' i j) ∧ z = z' ∧ o = o'
def sp_Reckoning_eq (K : PySem.W.Frag) (C : Addr) : Sp := fun vs H Q _ => ∃ (b : Addr) (x : V), vs = [.ref b, x] ∧
  ((∃ (c n m z o z' o' : Nat) (J M J' M' : Nat → Nat → Nat), x = .ref c ∧ RkAt K C H b n J M z o ∧ RkAt K C H c m J' M' z' o' ∧ ∀ r : Bool, (r = true ↔ SameR n m J M J' M' z o z' o') → Q (.bl r) H) ∨
   (Of K H C x false ∧ Q (.bl false) H))
theorem ok_Reckoning_eq (T : Txt K mg) : FnOk P w K mg base CX0 1 T.f_Reckoning_eq T.fd_Reckoning_eq ["self", "other"] (sp_Reckoning_eq K T.C_Reckoning) := by
  refine T.F_Reckoning_eq.ok sc_Reckoning_eq (fun vs H Q E h => ?_) (fun cdv A outer s H vs Q E hr h => ?_)
  · obtain ⟨b, x, rfl, _⟩ := h
    rfl
  · obtain ⟨b, x, rfl, h⟩ := h
    refine ⟨_, (pss_cons (ps_if (PW.pt (pw_or (pt_not (pt_val (pe_callB (id := "isinstance") (r := rIsi K) call_isi (by rfl) T.n_isinstance (by decide +kernel) (pa_cons (pv 1) (pa_cons (pe_glob (v := .ref T.C_Reckoning) rfl T.c_Reckoning rfl) pa_nil))))) (pw_or (pt_cmpR (r := rNeD K) (op_neD hr.units) (pe_fld (pv 0) rfl) (pe_fld (pv 1) rfl) (nomark _)) (pw_or1 (pt_cmpR (r := rNeD K) (op_neD hr.units) (pe_fld (pv 0) rfl) (pe_fld (pv 1) rfl) (nomark _))))))
  (pss_one (ps_ret pe_bl))
  pss_nil)
  (pss_one (ps_ret (pe_and (pe_cmpR op_eq (pe_fld (pv 0) rfl) (pe_fld (pv 1) rfl) (nomark _)) (pe_one (pe_cmpR op_eq (pe_fld (pv 0) rfl) (pe_fld (pv 1) rfl) (nomark _))))))), ?_⟩
    rcases h with ⟨c, n, m, z, o, z', o', J, M, J', M', rfl, hR, hS, k⟩ | ⟨od, k⟩
    case inr =>
      walk_at "rd"
      refine od.ask ?_
      walk_at "rd"
      exact k
    obtain ⟨dx, j, p, _, _, _, h0, h1, h2, _⟩ := id hR
    obtain ⟨dx', j', p', _, _, _, g0, g1, g2, _⟩ := id hS
    walk_at "rd"
    refine isiOwn T.cl_Reckoning T.ty_Reckoning g0 ?_
    walk_at "rd"
    refine Rd.fld h0 T.cl_Reckoning T.na_Reckoning_joins rfl ?_
    walk_at "rd"
    refine Rd.fld g0 T.cl_Reckoning T.na_Reckoning_joins rfl ?_
    walk_at "rd"
    refine neTbl h1 g1 ?_
    by_cases c1 : rowsI J n = rowsI J' m
    · rw [decide_eq_true c1]
      walk_at "rd"
      refine Rd.fld h0 T.cl_Reckoning T.na_Reckoning_products rfl ?_
      walk_at "rd"
      refine Rd.fld g0 T.cl_Reckoning T.na_Reckoning_products rfl ?_
      walk_at "rd"
      refine neTbl h2 g2 ?_
      by_cases c2 : rowsI M n = rowsI M' m
      · rw [decide_eq_true c2]
        walk_at "rd"
        refine Rd.fld h0 T.cl_Reckoning T.na_Reckoning_none rfl ?_
        walk_at "rd"
        refine Rd.fld g0 T.cl_Reckoning T.na_Reckoning_none rfl ?_
        walk_at "rd"
        by_cases c3 : z = z'
        · refine Rd.yes (by omega) ?_
          walk_at "rd"
          refine Rd.fld h0 T.cl_Reckoning T.na_Reckoning_one rfl ?_
          walk_at "rd"
          refine Rd.fld g0 T.cl_Reckoning T.na_Reckoning_one rfl ?_
          walk_at "rd"
          exact k _ ⟨fun e => ⟨rowsI_eq.mp c1, rowsI_eq.mp c2, c3, by have := of_decide_eq_true e; omega⟩, fun e => decide_eq_true (by have := e.2.2.2; omega)⟩
        · refine Rd.no (by omega) ?_
          walk_at "rd"
          exact k _ ⟨(fun e => nomatch e), fun e => absurd e.2.2.1 c3⟩
      · rw [decide_eq_false c2]
        walk_at "rd"
        exact k _ ⟨(fun e => nomatch e), fun e => absurd (rowsI_eq.mpr e.2.1) c2⟩
    · rw [decide_eq_false c1]
      walk_at "rd"
      exact k _ ⟨(fun e => nomatch e), fun e => absurd (rowsI_eq.mpr e.1) c1⟩

end
end W

namespace W
open PySem PySem.Spec PyProof.Rows L2
section
variable {P : Program} {w : World} {K : PySem.W.Frag} {mg : Str → Option Value} {base : Heap}
/-! ### the greatest common divisor -/
def sp_common (K : PySem.W.Frag) : Sp := fun vs H Q _ => ∃ a b : Int, vs = [.int a, .int b] ∧ Q (.int (Nat.gcd a.natAbs b.natAbs : Nat)) H
theorem ok_common (T : Txt K mg) : FnOk P w K mg base CX0 1 T.f_common T.fd_common ["one", "other"] (sp_common K) := by
  refine T.F_common.ok sc_common (fun vs H Q E h => ?_) (fun cdv A outer s H vs Q E hr h => ?_)
  · obtain ⟨a, b, rfl, _⟩ := h
    rfl
  · obtain ⟨a, b, rfl, k⟩ := h
    refine ⟨_, (pss_cons (ps_set (i := 0) sc_common.nd rfl (.inl rfl) (pe_callB (id := "abs") (r := _) Rd.c_abs (by rfl) T.n_abs (by decide +kernel) (pa_cons (pv 0) pa_nil)))
  (pss_cons (ps_set (i := 1) sc_common.nd rfl (.inl rfl) (pe_callB (id := "abs") (r := _) Rd.c_abs (by rfl) T.n_abs (by decide +kernel) (pa_cons (pv 1) pa_nil)))
  (pss_cons (ps_while PassesOwn.never (pt_cmpR op_gt (pv 1) pe_int (nomark _))
  (pss_one (ps_par (i := 0) (j := 1) rfl sc_common.nd rfl rfl (by decide) rfl rfl (pa_cons (pv 1) (pa_cons (pe_op op_mod (pv 0) (pv 1)) pa_nil)) (by rfl))))
  (pss_one (ps_ret (pv 0)))))), ?_⟩
    walk_at "rd"
    refine Rd.whl (fun m σ H' => ∃ x : Nat, σ = [some (.int x), some (.int m)] ∧ Nat.gcd x m = Nat.gcd a.natAbs b.natAbs ∧ H' = H) ⟨b.natAbs, a.natAbs, rfl, rfl, rfl⟩ ?_
    rintro m _ _ ⟨x, rfl, e, rfl⟩
    walk_at "rd"
    refine ite2 (fun c => ?_) (fun c => ?_)
    · refine Rd.whN ?_
      walk_at "rd"
      refine Rd.iC c ?_
      walk_at "rd"
      have hm : 0 < m := by omega
      refine ⟨x % m, Nat.mod_lt _ hm, m, ?_, ?_, rfl⟩
      · rw [Int.natCast_emod]
        rfl
      · rw [← e, Nat.gcd_comm x m, Nat.gcd_rec m x, Nat.gcd_comm]
    · have hm : m = 0 := by omega
      subst hm
      walk_at "rd"
      rw [Nat.gcd_zero_right] at e
      rw [e]
      exact k

end
end W

namespace W
open PySem PySem.Spec PyProof.Rows L2
section
variable {P : Program} {w : World} {K : PySem.W.Frag} {mg : Str → Option Value} {base : Heap}
set_option exponentiation.threshold 10000
open Mx (Sz part)
/-! ### fractions -/
/-- an instance of C that holds r -/
def RatAt (C : Addr) (H : Hp) (b : Addr) (r : Rat) : Prop := ∃ dx, H b = some (.ins C dx [("top", .int r.num), ("bottom", .int (r.den : Int))])
/-- a number: a fraction or an int -/
def NumAt (C : Addr) (H : Hp) (x : V) (r : Rat) : Prop := (∃ b, x = .ref b ∧ RatAt C H b r) ∨ ∃ i : Int, x = .int i ∧ r = (i : Rat)
/-- no number -/
inductive OdX (K : PySem.W.Frag) (C : Addr) (H : Hp) : V → Prop where
  | is {x : V} {k : Rx.Kd} (h : Rx.Is H x k) (n : k.isNum = false) : OdX K C H x
  | ins {a D dx : Addr} {fs : List (Str × V)} (e : H a = some (.ins D dx fs)) (c : Cls K D) (o : OwnTy K D) (ki : PySem.W.mroIn K D (.type "int") = some false) (kb : PySem.W.mroIn K D (.type "bool") = some false)
      (s : PySem.W.subIn K (.ref D) (.ref C) = some false) (ne : (Value.ref D == Value.ref C) = false) : OdX K C H (.ref a)
theorem RatAt.same {C b : Addr} {r : Rat} {H H' : Hp} (s : Same H H') (h : RatAt C H b r) : RatAt C H' b r := let ⟨dx, e⟩ := h; ⟨dx, s _ _ e⟩
theorem RatAt.tape {C b t c : Addr} {r : Rat} {H H' : Hp} (ht : Tape H t c) (off : Rd.But t H H') (h : RatAt C H b r) : RatAt C H' b r := by
  obtain ⟨dx, e⟩ := h
  obtain ⟨ns, x, y, z, u, _, g, _⟩ := ht
  exact ⟨dx, off _ _ (ne_of e g (fun e => nomatch e)) e⟩
theorem NumAt.same {C : Addr} {x : V} {r : Rat} {H H' : Hp} (s : Same H H') (h : NumAt C H x r) : NumAt C H' x r := h.elim (fun ⟨b, e, h⟩ => .inl ⟨b, e, h.same s⟩) .inr
theorem NumAt.tape {C t c : Addr} {x : V} {r : Rat} {H H' : Hp} (ht : Tape H t c) (off : Rd.But t H H') (h : NumAt C H x r) : NumAt C H' x r := h.elim (fun ⟨b, e, h⟩ => .inl ⟨b, e, h.tape ht off⟩) .inr
theorem RatAt.num {C b : Addr} {r : Rat} {H : Hp} (h : RatAt C H b r) : NumAt C H (.ref b) r := .inl ⟨b, rfl, h⟩
theorem NumAt.int {C : Addr} {H : Hp} (i : Int) : NumAt C H (.int i) i := .inr ⟨i, rfl, rfl⟩
theorem OdX.same {C : Addr} {x : V} {H H' : Hp} (s : Same H H') (h : OdX K C H x) : OdX K C H' x := by
  cases h with
  | is h n => exact .is (h.same s) n
  | ins e c o ki kb z ne => exact .ins (s _ _ e) c o ki kb z ne
theorem OdX.isX {C : Addr} {x : V} {H : Hp} (h : OdX K C H x) : ∃ k, IsX K H x k ∧ k.isNum = false := by
  cases h with
  | is h n => exact ⟨_, .is h, n⟩
  | ins e c o ki kb z ne => exact ⟨_, .ins e c o ki kb, rfl⟩
theorem kdOwn {C : Addr} (ic : PySem.W.isClsIn K C = true) (tc : PySem.W.typeIn K (.ref C) = some (.type "type")) (k : Rx.Kd) : PySem.W.kitOne K (.type k.ty) (.ref C) = some false := by
  cases k <;> exact Rp.kitB_own ic tc rfl
theorem RatAt.ask (T : Txt K mg) {b : Addr} {r : Rat} {H : Hp} {Q : VK} (h : RatAt T.C_Ratio H b r) (q : Q (.bl true) H) : rIsi K [.ref b, .ref T.C_Ratio] H Q := let ⟨_, e⟩ := h; isiOwn T.cl_Ratio T.ty_Ratio e q
theorem askI (T : Txt K mg) {i : Int} {H : Hp} {Q : VK} (q : Q (.bl false) H) : rIsi K [.int i, .ref T.C_Ratio] H Q := ⟨_, _, _, _, false, rfl, .own _, .base (.int i), Rp.kitB_own T.ic_Ratio T.tc_Ratio rfl, q⟩
theorem OdX.ask (T : Txt K mg) {x : V} {H : Hp} {Q : VK} (h : OdX K T.C_Ratio H x) (q : Q (.bl false) H) : rIsi K [x, .ref T.C_Ratio] H Q := by
  cases h with
  | is h n => exact ⟨_, _, _, _, false, rfl, .own _, h.ty, kdOwn T.ic_Ratio T.tc_Ratio _, q⟩
  | ins e c o ki kb z ne => exact ⟨_, _, _, _, false, rfl, .own _, .base (.ins e c o.ha o.hn o.htk o.hm), Rp.kitO_own T.ic_Ratio T.tc_Ratio z ne, q⟩
theorem RatAt.ftop (T : Txt K mg) {b : Addr} {r : Rat} {H : Hp} {Q : VK} (h : RatAt T.C_Ratio H b r) (q : Q (.int r.num) H) : Rd.FldG K "top" (.ref b) H Q := let ⟨_, e⟩ := h; Rd.fld e T.cl_Ratio T.na_Ratio_top rfl q
theorem RatAt.fbot (T : Txt K mg) {b : Addr} {r : Rat} {H : Hp} {Q : VK} (h : RatAt T.C_Ratio H b r) (q : Q (.int (r.den : Int)) H) : Rd.FldG K "bottom" (.ref b) H Q := let ⟨_, e⟩ := h; Rd.fld e T.cl_Ratio T.na_Ratio_bottom rfl q
def sp_Ratio_init (K : PySem.W.Frag) (C CB : Addr) : Sp := fun vs H Q E => ∃ (b dx : Addr) (x y : V), vs = [.ref b, x, y] ∧ H b = some (.ins C dx []) ∧
  ((∃ t u : Int, x = .int t ∧ y = .int u ∧ u ≠ 0 ∧ u.natAbs < 2 ^ 9000 ∧ ∀ H', RatAt C H' b (Rat.divInt t u) → Rd.But b H H' → Q .non H') ∨
   (∃ k, IsX K H x k ∧ k.isNum = false ∧ Rx.Raised CB x H E) ∨
   ∃ t : Int, x = .int t ∧ ((∃ k, IsX K H y k ∧ k.isNum = false) ∨ y = .int 0) ∧ Rx.Raised CB y H E)
theorem made2 {H G H' : Hp} {x : Addr} (nx : H x = none) (s : Same H G) (bt : Rd.But x G H') : Same H H' := fun b o e => bt b o (ne_of_none e nx) (s b o e)
theorem mkR {C CB : Addr} {H : Hp} {Q : VK} {E : XK} {vs dvs : List V} {t u : Int} (e : vs ++ dvs = [.int t, .int u]) (h : u ≠ 0) (bd : u.natAbs < 2 ^ 9000) (k : ∀ b H', RatAt C H' b (Rat.divInt t u) → Same H H' → Q (.ref b) H') : Rd.MkG C (sp_Ratio_init K C CB) dvs E vs H Q := by
  refine Rd.mk fun x dx G nx nd ne gx s1 off => ?_
  rw [e]
  exact ⟨x, dx, _, _, rfl, gx, .inl ⟨t, u, rfl, rfl, h, bd, fun H' hR bt => ⟨rfl, k x H' hR (made2 nx s1 bt)⟩⟩⟩
theorem ok_Ratio_init (T : Txt K mg) : FnOk P w K mg base (L2.CX P w) 4 T.f_Ratio_init T.fd_Ratio_init ["self", "top", "bottom"] (sp_Ratio_init K T.C_Ratio T.C_BadNumber) := by
  refine T.D_Ratio_init.ok (CX := L2.CX P w) sc_Ratio_init (fun vs H Q E h => ?_) (fun cdv A outer s H vs Q E hr h => ?_)
  · obtain ⟨b, dx, x, y, rfl, _⟩ := h
    rfl
  · obtain ⟨b, dx, x, y, rfl, h0, h⟩ := h
    refine ⟨_, (pss_cons (ps_if (pt_not (pt_val (pe_call (ok_is_integer T) (hr.mono (by decide)) rfl T.g_is_integer T.F_is_integer.kp T.b_is_integer .nil pass0 (pa_cons (pv 1) pa_nil))))
  (pss_one (Rx.ps_raise1 rfl T.X_BadNumber T.tI_WayError_init (ok_WayError_init T) (hr.mono (by decide)) T.b_WayError_init rfl T.c_BadNumber (takes_of rfl rfl rfl rfl) (pv 1)))
  pss_nil)
  (pss_cons (ps_if (PW.pt (pw_or (pt_not (pt_val (pe_call (ok_is_integer T) (hr.mono (by decide)) rfl T.g_is_integer T.F_is_integer.kp T.b_is_integer .nil pass0 (pa_cons (pv 2) pa_nil)))) (pw_or1 (pt_cmpR op_eq (pv 2) pe_int (nomark _)))))
  (pss_one (Rx.ps_raise1 rfl T.X_BadNumber T.tI_WayError_init (ok_WayError_init T) (hr.mono (by decide)) T.b_WayError_init rfl T.c_BadNumber (takes_of rfl rfl rfl rfl) (pv 2)))
  pss_nil)
  (pss_cons (ps_set (i := 3) sc_Ratio_init.nd rfl (.inl rfl) (pe_call (ok_common T) (hr.mono (by decide)) rfl T.g_common T.F_common.kp T.b_common .nil pass0 (pa_cons (pv 1) (pa_cons (pv 2) pa_nil))))
  (pss_cons (ps_if (pt_cmpR op_lt (pv 2) pe_int (nomark _))
  (pss_one (ps_set (i := 3) sc_Ratio_init.nd rfl (.inl rfl) (pe_un un_neg (pv 3))))
  pss_nil)
  (pss_cons (ps_fld (pv 0) (pe_op Rr.op_fdivZ (pv 1) (pv 3)) rfl)
  (pss_one (ps_fld (pv 0) (pe_op Rr.op_fdivZ (pv 2) (pv 3)) rfl))))))), ?_⟩
    rcases h with ⟨t, u, rfl, rfl, u0, bd, k⟩ | ⟨kd, ix, nn, rs⟩ | ⟨t, rfl, odd, rs⟩
    · walk_at "rd"
      refine ⟨_, _, rfl, .int _, ?_⟩
      walk_at "rd"
      refine Rd.yes rfl ?_
      walk_at "rd"
      refine ⟨_, _, rfl, .int _, ?_⟩
      walk_at "rd"
      refine Rd.yes rfl ?_
      walk_at "rd"
      refine Rd.no u0 ?_
      walk_at "rd"
      refine ⟨_, _, rfl, ?_⟩
      walk_at "rd"
      have lg : ∀ p : Int, p.natAbs = Nat.gcd t.natAbs u.natAbs → p.natAbs.log2 < 9000 := fun p e => PySem.Flt.log2_lt_of (by decide) (by
        rw [e]
        exact Nat.lt_of_le_of_lt (Mx.gcd_le u0) bd)
      refine ite2 (fun c => ?_) (fun c => ?_)
      · have e : part t u = -((Nat.gcd t.natAbs u.natAbs : Nat) : Int) := if_pos c
        walk_at "rd"
        rw [← e]
        refine Rd.iC ⟨Mx.part_ne u0, lg _ (Mx.part_abs t u)⟩ ?_
        rw [Mx.top_of u0]
        walk_at "rd"
        refine Rd.sfld h0 T.cl_Ratio T.na_Ratio_top (by decide) (show _ = [(("top" : Str), V.int (Rat.divInt t u).num)] from rfl) fun G1 h1 off1 => ?_
        walk_at "rd"
        refine Rd.iC ⟨Mx.part_ne u0, lg _ (Mx.part_abs t u)⟩ ?_
        rw [Mx.bot_of u0]
        walk_at "rd"
        refine Rd.sfld h1 T.cl_Ratio T.na_Ratio_bottom (by simp) rfl fun G2 g2 off2 => ?_
        walk_at "rd"
        exact k G2 ⟨dx, g2⟩ fun x u nx e => by
          rw [off2 x nx, off1 x nx]
          exact e
      · have e : part t u = ((Nat.gcd t.natAbs u.natAbs : Nat) : Int) := if_neg c
        walk_at "rd"
        rw [← e]
        refine Rd.iC ⟨Mx.part_ne u0, lg _ (Mx.part_abs t u)⟩ ?_
        rw [Mx.top_of u0]
        walk_at "rd"
        refine Rd.sfld h0 T.cl_Ratio T.na_Ratio_top (by decide) (show _ = [(("top" : Str), V.int (Rat.divInt t u).num)] from rfl) fun G1 h1 off1 => ?_
        walk_at "rd"
        refine Rd.iC ⟨Mx.part_ne u0, lg _ (Mx.part_abs t u)⟩ ?_
        rw [Mx.bot_of u0]
        walk_at "rd"
        refine Rd.sfld h1 T.cl_Ratio T.na_Ratio_bottom (by simp) rfl fun G2 g2 off2 => ?_
        walk_at "rd"
        exact k G2 ⟨dx, g2⟩ fun x u nx e => by
          rw [off2 x nx, off1 x nx]
          exact e
    · walk_at "rd"
      refine ⟨_, _, rfl, ix, ?_⟩
      rw [nn]
      walk_at "rd"
      exact rs.now (Same.refl _)
    · walk_at "rd"
      refine ⟨_, _, rfl, .int _, ?_⟩
      walk_at "rd"
      refine Rd.yes rfl ?_
      walk_at "rd"
      rcases odd with ⟨kd, ix, nn⟩ | rfl
      · refine ⟨_, _, rfl, ix, ?_⟩
        rw [nn]
        walk_at "rd"
        exact rs.now (Same.refl _)
      · refine ⟨_, _, rfl, .int _, ?_⟩
        walk_at "rd"
        refine Rd.yes rfl ?_
        walk_at "rd"
        refine Rd.yes rfl ?_
        walk_at "rd"
        exact rs.now (Same.refl _)
/-! ### what is a number -/
def sp_is_number (K : PySem.W.Frag) (C : Addr) : Sp := fun vs H Q _ => ∃ x : V, vs = [x] ∧ ((∃ r, NumAt C H x r ∧ Q (.bl true) H) ∨ (OdX K C H x ∧ Q (.bl false) H))
def sp_as_ratio (K : PySem.W.Frag) (C : Addr) : Sp := fun vs H Q _ => ∃ (x : V) (r : Rat), vs = [x] ∧ NumAt C H x r ∧ ∀ b H', RatAt C H' b r → Same H H' → Q (.ref b) H'
theorem ok_is_number (T : Txt K mg) : FnOk P w K mg base CX0 2 T.f_is_number T.fd_is_number ["value"] (sp_is_number K T.C_Ratio) := by
  refine T.F_is_number.ok sc_is_number (fun vs H Q E h => ?_) (fun cdv A outer s H vs Q E hr h => ?_)
  · obtain ⟨x, rfl, _⟩ := h
    rfl
  · obtain ⟨x, rfl, h⟩ := h
    refine ⟨_, (pss_one (ps_ret (pe_or (pe_callB (id := "isinstance") (r := rIsi K) call_isi (by rfl) T.n_isinstance (by decide +kernel) (pa_cons (pv 0) (pa_cons (pe_glob (v := .ref T.C_Ratio) rfl T.c_Ratio rfl) pa_nil))) (pe_one (pe_call (ok_is_integer T) (hr.mono (by decide)) rfl T.g_is_integer T.F_is_integer.kp T.b_is_integer .nil pass0 (pa_cons (pv 0) pa_nil)))))), ?_⟩
    walk_at "rd"
    rcases h with ⟨r, ⟨b, rfl, hR⟩ | ⟨i, rfl, rfl⟩, k⟩ | ⟨od, k⟩
    · refine hR.ask T ?_
      walk_at "rd"
      exact k
    · refine askI T ?_
      walk_at "rd"
      exact ⟨_, _, rfl, .int _, k⟩
    · refine od.ask T ?_
      walk_at "rd"
      obtain ⟨kd, ix, nn⟩ := od.isX
      refine ⟨_, _, rfl, ix, ?_⟩
      rw [nn]
      exact k
theorem ok_as_ratio (T : Txt K mg) : FnOk P w K mg base CX0 6 T.f_as_ratio T.fd_as_ratio ["value"] (sp_as_ratio K T.C_Ratio) := by
  refine T.F_as_ratio.ok sc_as_ratio (fun vs H Q E h => ?_) (fun cdv A outer s H vs Q E hr h => ?_)
  · obtain ⟨x, r, rfl, _⟩ := h
    rfl
  · obtain ⟨x, r, rfl, h, k⟩ := h
    refine ⟨_, (pss_one (ps_ret (pe_ifExp (pt_val (pe_callB (id := "isinstance") (r := rIsi K) call_isi (by rfl) T.n_isinstance (by decide +kernel) (pa_cons (pv 0) (pa_cons (pe_glob (v := .ref T.C_Ratio) rfl T.c_Ratio rfl) pa_nil)))) (pv 0) (pe_make T.M_Ratio (ok_Ratio_init T) (hr.mono (by decide)) rfl T.c_Ratio T.b1_Ratio_init T.rd_Ratio_init passL (pa_cons (pv 0) pa_nil))))), ?_⟩
    walk_at "rd"
    rcases h with ⟨b, rfl, hR⟩ | ⟨i, rfl, rfl⟩
    · refine hR.ask T ?_
      walk_at "rd"
      exact k b _ hR (Same.refl _)
    · refine askI T ?_
      walk_at "rd"
      refine mkR rfl (by decide) (by decide) fun b H' hR s => ?_
      rw [Mx.of_int] at hR
      exact k b H' hR s
/-! ### the operators -/
/-- the method f of a fraction and a number -/
def RatM (K : PySem.W.Frag) (C : Addr) (f : Rat → Rat → Rat) : Sp := fun vs H Q _ => ∃ (b : Addr) (x : V) (r s : Rat), vs = [.ref b, x] ∧ RatAt C H b r ∧ NumAt C H x s ∧ Sz 4000 r ∧ Sz 4000 s ∧ ∀ q H', RatAt C H' q (f r s) → Same H H' → Q (.ref q) H'
/-- the method f of a fraction and an int -/
def RatI (K : PySem.W.Frag) (C : Addr) (f : Rat → Rat → Rat) : Sp := fun vs H Q _ => ∃ (b : Addr) (i : Int) (r : Rat), vs = [.ref b, .int i] ∧ RatAt C H b r ∧ Sz 4000 r ∧ i.natAbs < 2 ^ 4000 ∧ ∀ q H', RatAt C H' q (f r i) → Same H H' → Q (.ref q) H'
def sp_Ratio_add (K : PySem.W.Frag) (C : Addr) : Sp := RatM K C fun r s => r + s
def sp_Ratio_sub (K : PySem.W.Frag) (C : Addr) : Sp := RatM K C fun r s => r - s
def sp_Ratio_mul (K : PySem.W.Frag) (C : Addr) : Sp := RatM K C fun r s => r * s
def sp_Ratio_radd (K : PySem.W.Frag) (C : Addr) : Sp := RatI K C fun r s => s + r
def sp_Ratio_rsub (K : PySem.W.Frag) (C : Addr) : Sp := RatI K C fun r s => s - r
def sp_Ratio_rmul (K : PySem.W.Frag) (C : Addr) : Sp := RatI K C fun r s => s * r
def sp_Ratio_neg (K : PySem.W.Frag) (C : Addr) : Sp := fun vs H Q _ => ∃ (b : Addr) (r : Rat), vs = [.ref b] ∧ RatAt C H b r ∧ Sz 4000 r ∧ ∀ q H', RatAt C H' q (-r) → Same H H' → Q (.ref q) H'
theorem cmw {i j : Int} (a : i.natAbs < 2 ^ 4000) (b : j.natAbs < 2 ^ 4000) : CMulW i j := wide_mul a b (by decide) (by decide) (by decide)
theorem _root_.Mx.Sz.dn {k : Nat} {r : Rat} (h : Sz k r) : ((r.den : Int)).natAbs < 2 ^ k := h.2
theorem den9 {r : Rat} (h : Sz 4000 r) : ((r.den : Int)).natAbs < 2 ^ 9000 := Nat.lt_of_lt_of_le h.2 (Nat.pow_le_pow_right (by decide) (by decide))
theorem den9M {r s : Rat} (h : Sz 4000 r) (k : Sz 4000 s) : ((r.den : Int) * (s.den : Int)).natAbs < 2 ^ 9000 := Nat.lt_of_lt_of_le (Mx.mul_lt (a := 4000) (b := 4000) h.2 k.2) (Nat.pow_le_pow_right (by decide) (by decide))
theorem _root_.Mx.Sz.numI {i : Int} (h : Sz 4000 (i : Rat)) : i.natAbs < 2 ^ 4000 := h.1
theorem ok_Ratio_add (T : Txt K mg) : FnOk P w K mg base CX0 6 T.f_Ratio_add T.fd_Ratio_add ["self", "other"] (sp_Ratio_add K T.C_Ratio) := by
  refine T.F_Ratio_add.ok sc_Ratio_add (fun vs H Q E h => ?_) (fun cdv A outer s H vs Q E hr h => ?_)
  · obtain ⟨b, x, r, s, rfl, _⟩ := h
    rfl
  · obtain ⟨b, x, r, s, rfl, hR, hx, zr, zs, k⟩ := h
    refine ⟨_, (pss_cons (ps_if (pt_val (pe_callB (id := "isinstance") (r := rIsi K) call_isi (by rfl) T.n_isinstance (by decide +kernel) (pa_cons (pv 1) (pa_cons (pe_glob (v := .ref T.C_Ratio) rfl T.c_Ratio rfl) pa_nil))))
  (pss_one (ps_ret (pe_make T.M_Ratio (ok_Ratio_init T) (hr.mono (by decide)) rfl T.c_Ratio T.b_Ratio_init .nil passL (pa_cons (pe_op op_add (pe_op op_mulW (pe_fld (pv 0) rfl) (pe_fld (pv 1) rfl)) (pe_op op_mulW (pe_fld (pv 1) rfl) (pe_fld (pv 0) rfl))) (pa_cons (pe_op op_mulW (pe_fld (pv 0) rfl) (pe_fld (pv 1) rfl)) pa_nil)))))
  pss_nil)
  (pss_cons (ps_if (pt_val (pe_call (ok_is_integer T) (hr.mono (by decide)) rfl T.g_is_integer T.F_is_integer.kp T.b_is_integer .nil pass0 (pa_cons (pv 1) pa_nil)))
  (pss_one (ps_ret (pe_make T.M_Ratio (ok_Ratio_init T) (hr.mono (by decide)) rfl T.c_Ratio T.b_Ratio_init .nil passL (pa_cons (pe_op op_add (pe_fld (pv 0) rfl) (pe_op op_mulW (pv 1) (pe_fld (pv 0) rfl))) (pa_cons (pe_fld (pv 0) rfl) pa_nil)))))
  pss_nil)
  (pss_one ps_never))), ?_⟩
    walk_at "rd"
    rcases hx with ⟨c, rfl, hS⟩ | ⟨i, rfl, rfl⟩
    · refine hS.ask T ?_
      walk_at "rd"
      refine hR.ftop T ?_
      walk_at "rd"
      refine hS.fbot T ?_
      refine Rd.iC (cmw zr.1 zs.dn) ?_
      walk_at "rd"
      refine hS.ftop T ?_
      walk_at "rd"
      refine hR.fbot T ?_
      refine Rd.iC (cmw zs.1 zr.dn) ?_
      walk_at "rd"
      refine hR.fbot T ?_
      walk_at "rd"
      refine hS.fbot T ?_
      refine Rd.iC (cmw zr.dn zs.dn) ?_
      walk_at "rd"
      refine mkR rfl (Mx.two_ne r s) (den9M zr zs) fun q H' h' s' => ?_
      rw [Mx.add_of] at h'
      walk_at "rd"
      exact k q H' h' s'
    · refine askI T ?_
      walk_at "rd"
      refine ⟨_, _, rfl, .int _, ?_⟩
      walk_at "rd"
      refine Rd.yes rfl ?_
      walk_at "rd"
      refine hR.ftop T ?_
      walk_at "rd"
      refine hR.fbot T ?_
      refine Rd.iC (cmw zs.numI zr.dn) ?_
      walk_at "rd"
      refine hR.fbot T ?_
      walk_at "rd"
      refine mkR rfl (Mx.den_ne r) (den9 zr) fun q H' h' s' => ?_
      rw [Mx.addI_of] at h'
      walk_at "rd"
      exact k q H' h' s'
theorem ok_Ratio_mul (T : Txt K mg) : FnOk P w K mg base CX0 6 T.f_Ratio_mul T.fd_Ratio_mul ["self", "other"] (sp_Ratio_mul K T.C_Ratio) := by
  refine T.F_Ratio_mul.ok sc_Ratio_mul (fun vs H Q E h => ?_) (fun cdv A outer s H vs Q E hr h => ?_)
  · obtain ⟨b, x, r, s, rfl, _⟩ := h
    rfl
  · obtain ⟨b, x, r, s, rfl, hR, hx, zr, zs, k⟩ := h
    refine ⟨_, (pss_cons (ps_if (pt_val (pe_callB (id := "isinstance") (r := rIsi K) call_isi (by rfl) T.n_isinstance (by decide +kernel) (pa_cons (pv 1) (pa_cons (pe_glob (v := .ref T.C_Ratio) rfl T.c_Ratio rfl) pa_nil))))
  (pss_one (ps_ret (pe_make T.M_Ratio (ok_Ratio_init T) (hr.mono (by decide)) rfl T.c_Ratio T.b_Ratio_init .nil passL (pa_cons (pe_op op_mulW (pe_fld (pv 0) rfl) (pe_fld (pv 1) rfl)) (pa_cons (pe_op op_mulW (pe_fld (pv 0) rfl) (pe_fld (pv 1) rfl)) pa_nil)))))
  pss_nil)
  (pss_cons (ps_if (pt_val (pe_call (ok_is_integer T) (hr.mono (by decide)) rfl T.g_is_integer T.F_is_integer.kp T.b_is_integer .nil pass0 (pa_cons (pv 1) pa_nil)))
  (pss_one (ps_ret (pe_make T.M_Ratio (ok_Ratio_init T) (hr.mono (by decide)) rfl T.c_Ratio T.b_Ratio_init .nil passL (pa_cons (pe_op op_mulW (pe_fld (pv 0) rfl) (pv 1)) (pa_cons (pe_fld (pv 0) rfl) pa_nil)))))
  pss_nil)
  (pss_one ps_never))), ?_⟩
    walk_at "rd"
    rcases hx with ⟨c, rfl, hS⟩ | ⟨i, rfl, rfl⟩
    · refine hS.ask T ?_
      walk_at "rd"
      refine hR.ftop T ?_
      walk_at "rd"
      refine hS.ftop T ?_
      refine Rd.iC (cmw zr.1 zs.1) ?_
      walk_at "rd"
      refine hR.fbot T ?_
      walk_at "rd"
      refine hS.fbot T ?_
      refine Rd.iC (cmw zr.dn zs.dn) ?_
      walk_at "rd"
      refine mkR rfl (Mx.two_ne r s) (den9M zr zs) fun q H' h' s' => ?_
      rw [Mx.mul_of] at h'
      walk_at "rd"
      exact k q H' h' s'
    · refine askI T ?_
      walk_at "rd"
      refine ⟨_, _, rfl, .int _, ?_⟩
      walk_at "rd"
      refine Rd.yes rfl ?_
      walk_at "rd"
      refine hR.ftop T ?_
      walk_at "rd"
      refine Rd.iC (cmw zr.1 zs.numI) ?_
      walk_at "rd"
      refine hR.fbot T ?_
      walk_at "rd"
      refine mkR rfl (Mx.den_ne r) (den9 zr) fun q H' h' s' => ?_
      rw [Mx.mulI_of] at h'
      walk_at "rd"
      exact k q H' h' s'
theorem ok_Ratio_radd (T : Txt K mg) : FnOk P w K mg base CX0 6 T.f_Ratio_radd T.fd_Ratio_radd ["self", "other"] (sp_Ratio_radd K T.C_Ratio) := by
  refine T.F_Ratio_radd.ok sc_Ratio_radd (fun vs H Q E h => ?_) (fun cdv A outer s H vs Q E hr h => ?_)
  · obtain ⟨b, i, r, rfl, _⟩ := h
    rfl
  · obtain ⟨b, i, r, rfl, hR, zr, zi, k⟩ := h
    refine ⟨_, (pss_cons (ps_if (pt_val (pe_call (ok_is_integer T) (hr.mono (by decide)) rfl T.g_is_integer T.F_is_integer.kp T.b_is_integer .nil pass0 (pa_cons (pv 1) pa_nil)))
  (pss_one (ps_ret (pe_make T.M_Ratio (ok_Ratio_init T) (hr.mono (by decide)) rfl T.c_Ratio T.b_Ratio_init .nil passL (pa_cons (pe_op op_add (pe_fld (pv 0) rfl) (pe_op op_mulW (pv 1) (pe_fld (pv 0) rfl))) (pa_cons (pe_fld (pv 0) rfl) pa_nil)))))
  pss_nil)
  (pss_one ps_never)), ?_⟩
    walk_at "rd"
    refine ⟨_, _, rfl, .int _, ?_⟩
    walk_at "rd"
    refine Rd.yes rfl ?_
    walk_at "rd"
    refine hR.ftop T ?_
    walk_at "rd"
    refine hR.fbot T ?_
    refine Rd.iC (cmw zi zr.dn) ?_
    walk_at "rd"
    refine hR.fbot T ?_
    walk_at "rd"
    refine mkR rfl (Mx.den_ne r) (den9 zr) fun q H' h' s' => ?_
    rw [Mx.addI_of, Rat.add_comm] at h'
    walk_at "rd"
    exact k q H' h' s'
theorem ok_Ratio_rmul (T : Txt K mg) : FnOk P w K mg base CX0 6 T.f_Ratio_rmul T.fd_Ratio_rmul ["self", "other"] (sp_Ratio_rmul K T.C_Ratio) := by
  refine T.F_Ratio_rmul.ok sc_Ratio_rmul (fun vs H Q E h => ?_) (fun cdv A outer s H vs Q E hr h => ?_)
  · obtain ⟨b, i, r, rfl, _⟩ := h
    rfl
  · obtain ⟨b, i, r, rfl, hR, zr, zi, k⟩ := h
    refine ⟨_, (pss_cons (ps_if (pt_val (pe_call (ok_is_integer T) (hr.mono (by decide)) rfl T.g_is_integer T.F_is_integer.kp T.b_is_integer .nil pass0 (pa_cons (pv 1) pa_nil)))
  (pss_one (ps_ret (pe_make T.M_Ratio (ok_Ratio_init T) (hr.mono (by decide)) rfl T.c_Ratio T.b_Ratio_init .nil passL (pa_cons (pe_op op_mulW (pe_fld (pv 0) rfl) (pv 1)) (pa_cons (pe_fld (pv 0) rfl) pa_nil)))))
  pss_nil)
  (pss_one ps_never)), ?_⟩
    walk_at "rd"
    refine ⟨_, _, rfl, .int _, ?_⟩
    walk_at "rd"
    refine Rd.yes rfl ?_
    walk_at "rd"
    refine hR.ftop T ?_
    walk_at "rd"
    refine Rd.iC (cmw zr.1 zi) ?_
    walk_at "rd"
    refine hR.fbot T ?_
    walk_at "rd"
    refine mkR rfl (Mx.den_ne r) (den9 zr) fun q H' h' s' => ?_
    rw [Mx.mulI_of, Rat.mul_comm] at h'
    walk_at "rd"
    exact k q H' h' s'
/-! ### equal, less, divided -/
def sp_Ratio_eq (K : PySem.W.Frag) (C : Addr) : Sp := fun vs H Q _ => ∃ (b : Addr) (x : V) (r : Rat), vs = [.ref b, x] ∧ RatAt C H b r ∧ ((∃ s, NumAt C H x s ∧ Q (.bl (decide (r = s))) H) ∨ (OdX K C H x ∧ Q (.bl false) H))
theorem rat_eq {r s : Rat} : decide (r = s) = (decide (r.num = s.num) && decide ((r.den : Int) = (s.den : Int))) := by
  rw [Bool.eq_iff_iff, Bool.and_eq_true, decide_eq_true_iff, decide_eq_true_iff, decide_eq_true_iff]
  exact ⟨fun e => by subst e; exact ⟨rfl, rfl⟩, fun e => Rat.ext e.1 (by omega)⟩
theorem rat_eqI {r : Rat} {i : Int} : decide (r = i) = (decide ((r.den : Int) = 1) && decide (r.num = i)) := by
  rw [rat_eq, Rat.num_intCast, Rat.den_intCast, Bool.and_comm]
  rfl
theorem ok_Ratio_eq (T : Txt K mg) : FnOk P w K mg base CX0 2 T.f_Ratio_eq T.fd_Ratio_eq ["self", "other"] (sp_Ratio_eq K T.C_Ratio) := by
  refine T.F_Ratio_eq.ok sc_Ratio_eq (fun vs H Q E h => ?_) (fun cdv A outer s H vs Q E hr h => ?_)
  · obtain ⟨b, x, r, rfl, _⟩ := h
    rfl
  · obtain ⟨b, x, r, rfl, hR, h⟩ := h
    refine ⟨_, (pss_cons (ps_if (pt_val (pe_callB (id := "isinstance") (r := rIsi K) call_isi (by rfl) T.n_isinstance (by decide +kernel) (pa_cons (pv 1) (pa_cons (pe_glob (v := .ref T.C_Ratio) rfl T.c_Ratio rfl) pa_nil))))
  (pss_one (ps_ret (pe_and (pe_cmpR (r := rEq) op_eq (pe_fld (pv 0) rfl) (pe_fld (pv 1) rfl) (nomark _)) (pe_one (pe_cmpR op_eq (pe_fld (pv 0) rfl) (pe_fld (pv 1) rfl) (nomark _))))))
  pss_nil)
  (pss_one (ps_ret (pe_and (pe_call (ok_is_integer T) (hr.mono (by decide)) rfl T.g_is_integer T.F_is_integer.kp T.b_is_integer .nil pass0 (pa_cons (pv 1) pa_nil)) (pe_and (pe_cmpR op_eq (pe_fld (pv 0) rfl) pe_int (nomark _)) (pe_one (pe_cmpR (r := rEq) op_eq (pe_fld (pv 0) rfl) (pv 1) (nomark _)))))))), ?_⟩
    walk_at "rd"
    rcases h with ⟨s, ⟨c, rfl, hS⟩ | ⟨i, rfl, rfl⟩, k⟩ | ⟨od, k⟩
    · refine hS.ask T ?_
      walk_at "rd"
      refine hR.ftop T ?_
      walk_at "rd"
      refine hS.ftop T ?_
      walk_at "rd"
      rw [rat_eq] at k
      by_cases c : r.num = s.num
      · rw [decide_eq_true c, Bool.true_and] at k
        refine Rd.yes c ?_
        walk_at "rd"
        refine hR.fbot T ?_
        walk_at "rd"
        refine hS.fbot T ?_
        walk_at "rd"
        exact k
      · rw [decide_eq_false c, Bool.false_and] at k
        refine Rd.no c ?_
        walk_at "rd"
        exact k
    · refine askI T ?_
      walk_at "rd"
      refine ⟨_, _, rfl, .int _, ?_⟩
      walk_at "rd"
      refine Rd.yes rfl ?_
      walk_at "rd"
      refine hR.fbot T ?_
      walk_at "rd"
      rw [rat_eqI] at k
      by_cases c : (r.den : Int) = 1
      · rw [decide_eq_true c, Bool.true_and] at k
        refine Rd.yes c ?_
        walk_at "rd"
        refine hR.ftop T ?_
        walk_at "rd"
        exact k
      · rw [decide_eq_false c, Bool.false_and] at k
        refine Rd.no c ?_
        walk_at "rd"
        exact k
    · refine od.ask T ?_
      walk_at "rd"
      obtain ⟨kd, ix, nn⟩ := od.isX
      refine ⟨_, _, rfl, ix, ?_⟩
      rw [nn]
      walk_at "rd"
      exact k
def sp_Ratio_less (K : PySem.W.Frag) (C CB : Addr) : Sp := fun vs H Q E => ∃ (b : Addr) (x : V) (r : Rat), vs = [.ref b, x] ∧ RatAt C H b r ∧ ((∃ s, NumAt C H x s ∧ Sz 4000 r ∧ Sz 4000 s ∧ ∀ H', Same H H' → Q (.bl (decide (r < s))) H') ∨ (OdX K C H x ∧ Rx.Raised CB x H E))
def sp_Ratio_over (K : PySem.W.Frag) (C CB : Addr) : Sp := fun vs H Q E => ∃ (b : Addr) (x : V) (r : Rat), vs = [.ref b, x] ∧ RatAt C H b r ∧
  ((∃ s, NumAt C H x s ∧ s ≠ 0 ∧ Sz 4000 r ∧ Sz 4000 s ∧ ∀ q H', RatAt C H' q (r / s) → Same H H' → Q (.ref q) H') ∨ (NumAt C H x 0 ∧ Rx.Raised CB x H E) ∨ (OdX K C H x ∧ Rx.Raised CB x H E))
def ZeroEq (K : PySem.W.Frag) (C : Addr) : R2 := fun x y H Q => rEq x y H Q ∨ Rp.rOX K C (sp_Ratio_eq K C) E0 x y H Q
theorem zeroEq {C : Addr} {H : Hp} {x : V} {s : Rat} {i : Int} {Q : VK} (h : NumAt C H x s) (q : Q (.bl (decide (s = i))) H) : ZeroEq K C x (.int i) H Q := by
  rcases h with ⟨b, rfl, dx, e⟩ | ⟨j, rfl, rfl⟩
  · exact .inr ⟨b, dx, _, _, rfl, e, .base (.int i), Rp.bi_notFirst rfl, b, .int i, s, rfl, ⟨dx, e⟩, .inl ⟨i, .int i, _, rfl, q⟩⟩
  · refine .inl (Rd.eqI ?_)
    rw [show decide ((j : Rat) = (i : Rat)) = decide (j = i) by rw [decide_eq_decide]; exact Rat.intCast_inj] at q
    exact q
end
end W

namespace W
open PySem PySem.Spec PyProof.Rows L2
section
variable {P : Program} {w : World} {K : PySem.W.Frag} {mg : Str → Option Value} {base : Heap}
set_option exponentiation.threshold 10000
open Mx (Sz part)
/-! ### the reckoning of numbers -/
def NumsAt (C CR : Addr) (H : Hp) (b : Addr) : Prop := ∃ dx n o : Addr, H b = some (.ins C dx [("none", .ref n), ("one", .ref o)]) ∧ RatAt CR H n 0 ∧ RatAt CR H o 1
theorem NumsAt.same {C CR : Addr} {H H' : Hp} {b : Addr} (s : Same H H') (h : NumsAt C CR H b) : NumsAt C CR H' b := let ⟨dx, n, o, e, hn, ho⟩ := h; ⟨dx, n, o, s _ _ e, hn.same s, ho.same s⟩
theorem NumsAt.tape {C CR t c b : Addr} {H H' : Hp} (ht : Tape H t c) (off : Rd.But t H H') (h : NumsAt C CR H b) : NumsAt C CR H' b := by
  obtain ⟨dx, n, o, e, hn, ho⟩ := h
  obtain ⟨ns, x, y, z, u, _, g, _⟩ := id ht
  exact ⟨dx, n, o, off _ _ (ne_of e g (fun e => nomatch e)) e, hn.tape ht off, ho.tape ht off⟩
/-- whether x is a number -/
def NumB (K : PySem.W.Frag) (C : Addr) (H : Hp) (x : V) (b : Bool) : Prop := (b = true ∧ ∃ r, NumAt C H x r) ∨ (b = false ∧ OdX K C H x)
theorem NumB.same {C : Addr} {H H' : Hp} {x : V} {b : Bool} (s : Same H H') (h : NumB K C H x b) : NumB K C H' x b := h.imp (fun ⟨e, r, n⟩ => ⟨e, r, n.same s⟩) fun ⟨e, o⟩ => ⟨e, o.same s⟩
theorem NumB.is {C : Addr} {H : Hp} {x : V} {b : Bool} {Q : VK} (h : NumB K C H x b) (q : Q (.bl b) H) : sp_is_number K C [x] H Q E0 := by
  rcases h with ⟨rfl, r, n⟩ | ⟨rfl, o⟩
  · exact ⟨x, rfl, .inl ⟨r, n, q⟩⟩
  · exact ⟨x, rfl, .inr ⟨o, q⟩⟩
def sp_Numbers_init (K : PySem.W.Frag) (C CR : Addr) : Sp := fun vs H Q _ => ∃ (b dx : Addr), vs = [.ref b] ∧ H b = some (.ins C dx []) ∧ ∀ H', NumsAt C CR H' b → Rd.But b H H' → Q .non H'
def sp_Numbers_is_worth (K : PySem.W.Frag) (C CR : Addr) : Sp := fun vs H Q _ => ∃ (b : Addr) (x : V) (r : Bool), vs = [.ref b, x] ∧ NumB K CR H x r ∧ Q (.bl r) H
/-- two things: the first one that is no number is told, else all goes on -/
def ChkN (CW : Addr) (H : Hp) (E : XK) (x y : V) (bx by_ : Bool) (k : Prop) : Prop := (bx = false → Rx.Raised CW x H E) ∧ (bx = true → by_ = false → Rx.Raised CW y H E) ∧ (bx = true → by_ = true → k)
def sp_Numbers_check (K : PySem.W.Frag) (C CR CW : Addr) : Sp := fun vs H Q E => ∃ (b t : Addr) (x y : V) (bx by_ : Bool), vs = [.ref b, .ref t] ∧ H t = some (.tup [x, y]) ∧ NumB K CR H x bx ∧ NumB K CR H y by_ ∧ ChkN CW H E x y bx by_ (Q .non H)
def NumM (K : PySem.W.Frag) (C CR CW : Addr) (f : Rat → Rat → Rat) : Sp := fun vs H Q E => ∃ (b : Addr) (x y : V), vs = [.ref b, x, y] ∧ NumsAt C CR H b ∧
  ((∃ r s, NumAt CR H x r ∧ NumAt CR H y s ∧ Sz 4000 r ∧ Sz 4000 s ∧ ∀ q H', RatAt CR H' q (f r s) → Same H H' → Q (.ref q) H') ∨ (OdX K CR H x ∧ (∃ by_, NumB K CR H y by_) ∧ Rx.Raised CW x H E) ∨ ((∃ r, NumAt CR H x r) ∧ OdX K CR H y ∧ Rx.Raised CW y H E))
def sp_Numbers_join (K : PySem.W.Frag) (C CR CW : Addr) : Sp := NumM K C CR CW fun r s => r + s
def sp_Numbers_times (K : PySem.W.Frag) (C CR CW : Addr) : Sp := NumM K C CR CW fun r s => r * s
theorem ok_Numbers_init (T : Txt K mg) : FnOk P w K mg base CX0 6 T.f_Numbers_init T.fd_Numbers_init ["self"] (sp_Numbers_init K T.C_Numbers T.C_Ratio) := by
  refine T.F_Numbers_init.ok sc_Numbers_init (fun vs H Q E h => ?_) (fun cdv A outer s H vs Q E hr h => ?_)
  · obtain ⟨b, dx, rfl, _⟩ := h
    rfl
  · obtain ⟨b, dx, rfl, hb, k⟩ := h
    refine ⟨_, (pss_cons (ps_fld (pv 0) (pe_make T.M_Ratio (ok_Ratio_init T) (hr.mono (by decide)) rfl T.c_Ratio T.b1_Ratio_init T.rd_Ratio_init passL (pa_cons pe_int pa_nil)) rfl)
  (pss_one (ps_fld (pv 0) (pe_make T.M_Ratio (ok_Ratio_init T) (hr.mono (by decide)) rfl T.c_Ratio T.b1_Ratio_init T.rd_Ratio_init passL (pa_cons pe_int pa_nil)) rfl))), ?_⟩
    walk_at "rd"
    refine mkR rfl (by decide) (by decide) fun n H1 hn s1 => ?_
    rw [Rat.zero_divInt] at hn
    walk_at "rd"
    refine Rd.sfld (s1 _ _ hb) T.cl_Numbers T.na_Numbers_none (by decide) (show _ = [(("none" : Str), V.ref n)] from rfl) fun G2 g2 off2 => ?_
    have e2 : Rd.But b H G2 := fun y o ny e => by
      rw [off2 y ny]
      exact s1 _ _ e
    have nb : n ≠ b := by
      obtain ⟨d2, en⟩ := id hn
      exact ne_of en (s1 _ _ hb) (by intro e; injection e with _ _ e3; simp at e3)
    have hn2 : RatAt T.C_Ratio G2 n 0 := let ⟨d2, en⟩ := hn; ⟨d2, by rw [off2 n nb]; exact en⟩
    walk_at "rd"
    refine mkR rfl (by decide) (by decide) fun o H3 ho s3 => ?_
    rw [Mx.of_int] at ho
    walk_at "rd"
    refine Rd.sfld (s3 _ _ g2) T.cl_Numbers T.na_Numbers_one (by simp) rfl fun G4 g4 off4 => ?_
    walk_at "rd"
    have ob : o ≠ b := by
      obtain ⟨d2, en⟩ := id ho
      exact ne_of en (s3 _ _ g2) (by intro e; injection e with _ _ e3; simp at e3)
    refine k G4 ⟨dx, n, o, g4, let ⟨d2, en⟩ := hn2.same s3; ⟨d2, by rw [off4 n nb]; exact en⟩, let ⟨d2, en⟩ := ho; ⟨d2, by rw [off4 o ob]; exact en⟩⟩ fun y o ny e => by
      rw [off4 y ny]
      exact s3 _ _ (e2 y o ny e)
theorem ok_Numbers_is_worth (T : Txt K mg) : FnOk P w K mg base CX0 3 T.f_Numbers_is_worth T.fd_Numbers_is_worth ["self", "thing"] (sp_Numbers_is_worth K T.C_Numbers T.C_Ratio) := by
  refine T.F_Numbers_is_worth.ok sc_Numbers_is_worth (fun vs H Q E h => ?_) (fun cdv A outer s H vs Q E hr h => ?_)
  · obtain ⟨b, x, r, rfl, _⟩ := h
    rfl
  · obtain ⟨b, x, r, rfl, hx, k⟩ := h
    refine ⟨_, (pss_one (ps_ret (pe_call (ok_is_number T) (hr.mono (by decide)) rfl T.g_is_number T.F_is_number.kp T.b_is_number .nil pass0 (pa_cons (pv 1) pa_nil)))), ?_⟩
    walk_at "rd"
    exact hx.is k
theorem ok_Numbers_check (T : Txt K mg) : FnOk P w K mg base (L2.CX P w) 4 T.f_Numbers_check T.fd_Numbers_check ["self", "worths"] (sp_Numbers_check K T.C_Numbers T.C_Ratio T.C_BadWorth) := by
  refine T.F_Numbers_check.okX sc_Numbers_check (fun vs H Q E h => ?_) (fun cdv A outer s H vs Q E hr h => ?_)
  · obtain ⟨b, t, x, y, bx, by_, rfl, _⟩ := h
    rfl
  · obtain ⟨b, t, x, y, bx, by_, rfl, ht, hx, hy, k1, k2, k3⟩ := h
    refine ⟨_, (pss_one (ps_for (passes_of rfl) rfl (pi_tup (pv 1)) (pg_name (i := 2) sc_Numbers_check.nd rfl (.inl rfl))
  (pss_one (ps_if (pt_not (pt_val (pe_call (ok_is_number T) (hr.mono (by decide)) rfl T.g_is_number T.F_is_number.kp T.b_is_number .nil pass0 (pa_cons (pv 2) pa_nil))))
  (pss_one (Rx.ps_raise1 rfl T.X_BadWorth T.tI_WayError_init (ok_WayError_init T) (hr.mono (by decide)) T.b_WayError_init rfl T.c_BadWorth (takes_of rfl rfl rfl rfl) (pv 2)))
  pss_nil)))), ?_⟩
    walk_at "rd"
    refine Rd.forS ?_
    walk_at "rd"
    refine ⟨⟨_, .of ht⟩, ?_⟩
    refine for_tup (xs := [x, y]) (fun i σ H' => (∃ o : Option V, σ = [some (.ref b), some (.ref t), o]) ∧ H' = H ∧ (0 < i → bx = true) ∧ (1 < i → by_ = true)) ⟨⟨_, rfl⟩, rfl, fun e => absurd e (by omega), fun e => absurd e (by omega)⟩ (fun _ _ _ _ e => by rw [e.2.1]; exact .of ht) ?_ ?_
    · rintro i w _ _ hw ⟨⟨o, rfl⟩, rfl, i0, i1⟩
      walk_at "rd"
      match i, hw with
      | 0, hw =>
        obtain rfl := Option.some.inj hw
        refine hx.is ?_
        walk_at "rd"
        cases e : bx with
        | true =>
          walk_at "rd"
          exact ⟨⟨_, rfl⟩, rfl, fun _ => rfl, fun e => absurd e (by omega)⟩
        | false =>
          walk_at "rd"
          exact (k1 e).now (Same.refl _)
      | 1, hw =>
        obtain rfl := Option.some.inj hw
        refine hy.is ?_
        walk_at "rd"
        cases e : by_ with
        | true =>
          walk_at "rd"
          exact ⟨⟨_, rfl⟩, rfl, fun _ => i0 (by omega), fun _ => rfl⟩
        | false =>
          walk_at "rd"
          exact (k2 (i0 (by omega)) e).now (Same.refl _)
      | n + 2, hw => simp at hw
    · rintro _ _ ⟨⟨o, rfl⟩, rfl, i0, i1⟩
      walk_at "rd"
      exact k3 (i0 (by simp)) (i1 (by simp))
theorem ok_Numbers_join (T : Txt K mg) : FnOk P w K mg base (L2.CX P w) 8 T.f_Numbers_join T.fd_Numbers_join ["self", "a", "b"] (sp_Numbers_join K T.C_Numbers T.C_Ratio T.C_BadWorth) := by
  refine T.F_Numbers_join.okX sc_Numbers_join (fun vs H Q E h => ?_) (fun cdv A outer s H vs Q E hr h => ?_)
  · obtain ⟨b, x, y, rfl, _⟩ := h
    rfl
  · obtain ⟨b, x, y, rfl, hN, h⟩ := h
    refine ⟨_, (pss_cons (ps_expr (Rq.pe_methS (pv 0) T.cl_Numbers T.h_Numbers_check (ok_Numbers_check T) (hr.mono (by decide)) T.b_Numbers_check (fun σ => passAt (takes_of rfl rfl rfl rfl) σ) (pa_cons (pe_tup (pa_cons (pv 1) (pa_cons (pv 2) pa_nil))) pa_nil)))
  (pss_one (ps_ret (pe_op (Rr.addO (E := E0) T.first_Ratio T.h_Ratio_add (ok_Ratio_add T) T.b_Ratio_add pass0 (hr.mono (by decide))) (pe_call (ok_as_ratio T) (hr.mono (by decide)) rfl T.g_as_ratio T.F_as_ratio.kp T.b_as_ratio .nil pass0 (pa_cons (pv 1) pa_nil)) (pe_call (ok_as_ratio T) (hr.mono (by decide)) rfl T.g_as_ratio T.F_as_ratio.kp T.b_as_ratio .nil pass0 (pa_cons (pv 2) pa_nil)))))), ?_⟩
    obtain ⟨dx, n, w, e, hn, hw⟩ := id hN
    walk_at "rd"
    refine Rq.methS ?_
    walk_at "rd"
    refine Rd.meth e rfl ?_
    walk_at "rd"
    refine ⟨Nat.le_of_ble_eq_true rfl, Rd.new fun p G np gp s1 => ?_⟩
    rcases h with ⟨r, s, hx, hy, zr, zs, k⟩ | ⟨ox, ⟨by_, ny⟩, rs⟩ | ⟨⟨r, hx⟩, oy, rs⟩
    · refine ⟨b, p, x, y, true, true, rfl, gp, .inl ⟨rfl, r, hx.same s1⟩, .inl ⟨rfl, s, hy.same s1⟩, (fun e => nomatch e), (fun _ e => nomatch e), fun _ _ => ?_⟩
      walk_at "rd"
      refine ⟨_, _, rfl, hx.same s1, fun c1 H1 R1 s2 => ?_⟩
      walk_at "rd"
      refine ⟨_, _, rfl, hy.same (s1.trans s2), fun c2 H2 R2 s3 => ?_⟩
      walk_at "rd"
      have R1' := R1.same s3
      obtain ⟨d1, e1⟩ := id R1'
      obtain ⟨d2, e2⟩ := id R2
      refine Rr.oo e1 e2 ⟨c1, _, r, s, rfl, R1', R2.num, zr, zs, fun q H3 R3 s4 => ?_⟩
      walk_at "rd"
      exact k q H3 R3 (s1.trans (s2.trans (s3.trans s4)))
    · exact ⟨b, p, x, y, false, by_, rfl, gp, .inr ⟨rfl, ox.same s1⟩, ny.same s1, fun _ => Rq.raised_same rs s1, (fun e => nomatch e), fun e => nomatch e⟩
    · exact ⟨b, p, x, y, true, false, rfl, gp, .inl ⟨rfl, r, hx.same s1⟩, .inr ⟨rfl, oy.same s1⟩, (fun e => nomatch e), fun _ _ => Rq.raised_same rs s1, fun _ e => nomatch e⟩
theorem ok_Numbers_times (T : Txt K mg) : FnOk P w K mg base (L2.CX P w) 8 T.f_Numbers_times T.fd_Numbers_times ["self", "a", "b"] (sp_Numbers_times K T.C_Numbers T.C_Ratio T.C_BadWorth) := by
  refine T.F_Numbers_times.okX sc_Numbers_times (fun vs H Q E h => ?_) (fun cdv A outer s H vs Q E hr h => ?_)
  · obtain ⟨b, x, y, rfl, _⟩ := h
    rfl
  · obtain ⟨b, x, y, rfl, hN, h⟩ := h
    refine ⟨_, (pss_cons (ps_expr (Rq.pe_methS (pv 0) T.cl_Numbers T.h_Numbers_check (ok_Numbers_check T) (hr.mono (by decide)) T.b_Numbers_check (fun σ => passAt (takes_of rfl rfl rfl rfl) σ) (pa_cons (pe_tup (pa_cons (pv 1) (pa_cons (pv 2) pa_nil))) pa_nil)))
  (pss_one (ps_ret (pe_op (Rr.mulO (E := E0) T.first_Ratio T.h_Ratio_mul (ok_Ratio_mul T) T.b_Ratio_mul pass0 (hr.mono (by decide))) (pe_call (ok_as_ratio T) (hr.mono (by decide)) rfl T.g_as_ratio T.F_as_ratio.kp T.b_as_ratio .nil pass0 (pa_cons (pv 1) pa_nil)) (pe_call (ok_as_ratio T) (hr.mono (by decide)) rfl T.g_as_ratio T.F_as_ratio.kp T.b_as_ratio .nil pass0 (pa_cons (pv 2) pa_nil)))))), ?_⟩
    obtain ⟨dx, n, w, e, hn, hw⟩ := id hN
    walk_at "rd"
    refine Rq.methS ?_
    walk_at "rd"
    refine Rd.meth e rfl ?_
    walk_at "rd"
    refine ⟨Nat.le_of_ble_eq_true rfl, Rd.new fun p G np gp s1 => ?_⟩
    rcases h with ⟨r, s, hx, hy, zr, zs, k⟩ | ⟨ox, ⟨by_, ny⟩, rs⟩ | ⟨⟨r, hx⟩, oy, rs⟩
    · refine ⟨b, p, x, y, true, true, rfl, gp, .inl ⟨rfl, r, hx.same s1⟩, .inl ⟨rfl, s, hy.same s1⟩, (fun e => nomatch e), (fun _ e => nomatch e), fun _ _ => ?_⟩
      walk_at "rd"
      refine ⟨_, _, rfl, hx.same s1, fun c1 H1 R1 s2 => ?_⟩
      walk_at "rd"
      refine ⟨_, _, rfl, hy.same (s1.trans s2), fun c2 H2 R2 s3 => ?_⟩
      walk_at "rd"
      have R1' := R1.same s3
      obtain ⟨d1, e1⟩ := id R1'
      obtain ⟨d2, e2⟩ := id R2
      refine Rr.oo e1 e2 ⟨c1, _, r, s, rfl, R1', R2.num, zr, zs, fun q H3 R3 s4 => ?_⟩
      walk_at "rd"
      exact k q H3 R3 (s1.trans (s2.trans (s3.trans s4)))
    · exact ⟨b, p, x, y, false, by_, rfl, gp, .inr ⟨rfl, ox.same s1⟩, ny.same s1, fun _ => Rq.raised_same rs s1, (fun e => nomatch e), fun e => nomatch e⟩
    · exact ⟨b, p, x, y, true, false, rfl, gp, .inl ⟨rfl, r, hx.same s1⟩, .inr ⟨rfl, oy.same s1⟩, (fun e => nomatch e), fun _ _ => Rq.raised_same rs s1, fun _ e => nomatch e⟩

end
end W

namespace W
open PySem PySem.Spec PyProof.Rows L2
section
variable {P : Program} {w : World} {K : PySem.W.Frag} {mg : Str → Option Value} {base : Heap}
/-! ### the reckoning of lengths -/
/-- the lengths stand at b -/
def LenAt (C : Addr) (H : Hp) (b : Addr) : Prop := ∃ dx, H b = some (.ins C dx [("none", .non), ("one", .int 0)])
theorem LenAt.same {C : Addr} {H H' : Hp} {b : Addr} (h : LenAt C H b) (s : Same H H') : LenAt C H' b := let ⟨dx, e⟩ := h; ⟨dx, s _ _ e⟩
theorem LenAt.tape {C t c : Addr} {H H' : Hp} {b : Addr} (ht : Tape H t c) (off : Rd.But t H H') (h : LenAt C H b) : LenAt C H' b := by
  obtain ⟨dx, e⟩ := h
  obtain ⟨ns, x, y, z, u, _, g, _⟩ := ht
  exact ⟨dx, off _ _ (ne_of e g (fun z => nomatch z)) e⟩
def sp_Lengths_init (K : PySem.W.Frag) (C : Addr) : Sp := fun vs H Q _ => ∃ (b dx : Addr), vs = [.ref b] ∧ H b = some (.ins C dx []) ∧ ∀ H', LenAt C H' b → Rd.But b H H' → Q .non H'
theorem ok_Lengths_init (T : Txt K mg) : FnOk P w K mg base CX0 1 T.f_Lengths_init T.fd_Lengths_init ["self"] (sp_Lengths_init K T.C_Lengths) := by
  refine T.F_Lengths_init.ok sc_Lengths_init (fun vs H Q E h => ?_) (fun cdv A outer s H vs Q E hr h => ?_)
  · obtain ⟨b, dx, rfl, _⟩ := h
    rfl
  · obtain ⟨b, dx, rfl, hb, k⟩ := h
    refine ⟨_, (pss_cons (ps_fld (pv 0) pe_non rfl)
  (pss_one (ps_fld (pv 0) pe_int rfl))), ?_⟩
    walk_at "rd"
    refine Rd.sfld hb T.cl_Lengths T.na_Lengths_none (by decide) (show _ = [(("none" : Str), V.non)] from rfl) fun G1 g1 off1 => ?_
    walk_at "rd"
    refine Rd.sfld g1 T.cl_Lengths T.na_Lengths_one (by simp) (show _ = [(("none" : Str), V.non), ("one", .int 0)] from rfl) fun G2 g2 off2 => ?_
    walk_at "rd"
    exact k G2 ⟨dx, g2⟩ fun x u nx e => by
      rw [off2 x nx, off1 x nx]
      exact e

end
end W

namespace W
open PySem PySem.Spec PyProof.Rows L2
section
variable {P : Program} {w : World} {K : PySem.W.Frag} {mg : Str → Option Value} {base : Heap}
open Mr (Rk joined joined_lt metF leftF rightF topF)
/-! ### tables that are written out -/
def rowE : List Nat → TA
  | [] => tNil
  | x :: xs => tCons (tC (.int (x : Nat))) (rowE xs)
theorem rowE_run : ∀ (xs : List Nat) {σ : L2.St} {H : Hp} {Q : List V → Hp → Prop}, Q (natL xs) H → rowE xs σ H Q
  | [], _, _, _, q => q
  | x :: xs, σ, H, Q, q => rowE_run xs (Q := fun vs H => Q (.int (x : Nat) :: vs) H) q
def tabE : List (List Nat) → TA
  | [] => tNil
  | x :: xs => tCons (tLst (rowE x)) (tabE xs)
def Lit (H : Hp) : List Addr → List (List Nat) → Prop
  | [], [] => True
  | r :: rs, x :: xs => H r = some (.lst (natL x)) ∧ Lit H rs xs
  | _, _ => False
theorem Lit.same {H H' : Hp} (s : Same H H') : ∀ {rs : List Addr} {t : List (List Nat)}, Lit H rs t → Lit H' rs t
  | [], [], _ => trivial
  | _ :: _, _ :: _, ⟨a, b⟩ => ⟨s _ _ a, Lit.same s b⟩
  | [], _ :: _, h => h.elim
  | _ :: _, [], h => h.elim
theorem Lit.len {H : Hp} : ∀ {rs : List Addr} {t : List (List Nat)}, Lit H rs t → rs.length = t.length
  | [], [], _ => rfl
  | _ :: _, _ :: _, ⟨_, b⟩ => congrArg (· + 1) (Lit.len b)
  | [], _ :: _, h => h.elim
  | _ :: _, [], h => h.elim
theorem Lit.get {H : Hp} : ∀ {rs : List Addr} {t : List (List Nat)} {i : Nat} {r : Addr}, Lit H rs t → rs[i]? = some r → H r = some (.lst (natL (t.getD i [])))
  | _ :: _, _ :: _, 0, _, ⟨a, _⟩, e => by cases (Option.some.inj e); exact a
  | _ :: _, _ :: _, i + 1, _, ⟨_, b⟩, e => Lit.get (i := i) b e
  | [], [], i, _, _, e => by simp at e
  | [], _ :: _, _, _, h, _ => h.elim
  | _ :: _, [], _, _, h, _ => h.elim
theorem tabE_run : ∀ (t : List (List Nat)) {σ : L2.St} {H : Hp} {Q : List V → Hp → Prop}, (∀ x ∈ t, x.length ≤ 1000) → (∀ rs H', Lit H' rs t → Same H H' → Q (rs.map V.ref) H') → tabE t σ H Q
  | [], _, H, _, _, q => q [] H trivial (Same.refl _)
  | x :: xs, σ, H, Q, l, q => by
    show tLst (rowE x) σ H (fun x H1 => tabE xs σ H1 fun xs H2 => Q (x :: xs) H2)
    refine rowE_run x (Q := fun vs H1 => vs.length ≤ sizeLine ∧ Rd.NewQ (.lst vs) (fun x H1 => tabE xs σ H1 fun xs H2 => Q (x :: xs) H2) H1) ⟨?_, Rd.new fun r G nr gr s => ?_⟩
    · rw [natL_len, sizeLine_eq]
      have := l x (List.mem_cons_self ..)
      omega
    · exact tabE_run xs (Q := fun vs H => Q (.ref r :: vs) H) (fun y m => l y (List.mem_cons_of_mem _ m)) fun rs H' h s2 => q (r :: rs) H' ⟨s2 _ _ gr, h⟩ (s.trans s2)
theorem getD_at {α : Type} {x : List α} {d : α} {i : Nat} (h : i < x.length) : x.getD i d = x[i] := by
  rw [List.getD_eq_getElem?_getD, List.getElem?_eq_getElem h]
  rfl
theorem row_of {x : List Nat} {n : Nat} (h : x.length = n) : natL x = rowV (fun j => x.getD j 0) n := by
  rw [rowV_nat, ← h]
  congr 1
  refine List.ext_getElem (by rw [List.length_map, List.length_range]) fun i h1 h2 => ?_
  rw [List.getElem_map, List.getElem_range]
  exact (getD_at h1).symm
theorem litTbl {H : Hp} {D : Addr} {rs : List Addr} {t : List (List Nat)} (sq : ∀ x ∈ t, x.length = t.length) (h : Lit H rs t) (gD : H D = some (.lst (rs.map V.ref))) : TblL H D t.length (Mr.tabF t) := by
  refine ⟨rs, gD, h.len, fun i r e => ?_⟩
  have il : i < t.length := by rw [← h.len]; exact (List.getElem?_eq_some_iff.mp e).1
  rw [h.get e]
  congr 2
  have := row_of (x := t.getD i []) (n := t.length) (by rw [getD_at il]; exact sq _ (List.getElem_mem il))
  exact this
theorem litT (t : List (List Nat)) {σ : L2.St} {H : Hp} {Q : VK} (sq : ∀ x ∈ t, x.length = t.length) (l : t.length ≤ 1000) (k : ∀ D H', TblL H' D t.length (Mr.tabF t) → Same H H' → Q (.ref D) H') : tLst (tabE t) σ H Q := by
  refine tabE_run t (Q := fun vs H1 => vs.length ≤ sizeLine ∧ Rd.NewQ (.lst vs) Q H1) (fun x m => by rw [sq x m]; exact l) fun rs H1 h s => ⟨?_, Rd.new fun D G nD gD s2 => ?_⟩
  · rw [List.length_map, h.len, sizeLine_eq]
    omega
  · exact k D G (litTbl sq (h.same s2) gD) (s.trans s2)
def prsE : List (List (List Nat) × Nat) → TA
  | [] => tNil
  | e :: es => tCons (tTup (tCons (tLst (tabE e.1)) (tCons (tC (.int (e.2 : Nat))) tNil))) (prsE es)
def Prs (H : Hp) : List Addr → List (List (List Nat) × Nat) → Prop
  | [], [] => True
  | p :: ps, e :: es => (∃ D : Addr, H p = some (.tup [.ref D, .int (e.2 : Nat)]) ∧ TblL H D e.1.length (Mr.tabF e.1)) ∧ Prs H ps es
  | _, _ => False
theorem Prs.same {H H' : Hp} (s : Same H H') : ∀ {ps : List Addr} {t : List (List (List Nat) × Nat)}, Prs H ps t → Prs H' ps t
  | [], [], _ => trivial
  | _ :: _, _ :: _, ⟨⟨D, a, c⟩, b⟩ => ⟨⟨D, s _ _ a, c.same s⟩, Prs.same s b⟩
  | [], _ :: _, h => h.elim
  | _ :: _, [], h => h.elim
theorem Prs.len {H : Hp} : ∀ {ps : List Addr} {t : List (List (List Nat) × Nat)}, Prs H ps t → ps.length = t.length
  | [], [], _ => rfl
  | _ :: _, _ :: _, ⟨_, b⟩ => congrArg (· + 1) (Prs.len b)
  | [], _ :: _, h => h.elim
  | _ :: _, [], h => h.elim
theorem Prs.get {H : Hp} : ∀ {ps : List Addr} {t : List (List (List Nat) × Nat)} {i : Nat} {p : Addr}, Prs H ps t → ps[i]? = some p → ∃ e D, e ∈ t ∧ H p = some (.tup [.ref D, .int (e.2 : Nat)]) ∧ TblL H D e.1.length (Mr.tabF e.1)
  | _ :: _, e :: _, 0, _, ⟨⟨D, a, c⟩, _⟩, h => by cases (Option.some.inj h); exact ⟨e, D, List.mem_cons_self .., a, c⟩
  | _ :: _, _ :: _, i + 1, _, ⟨_, b⟩, h => by
    obtain ⟨e, D, m, r⟩ := Prs.get (i := i) b h
    exact ⟨e, D, List.mem_cons_of_mem _ m, r⟩
  | [], [], i, _, _, e => by simp at e
  | [], _ :: _, _, _, h, _ => h.elim
  | _ :: _, [], _, _, h, _ => h.elim
theorem Prs.app {H : Hp} {qs : List Addr} {u : List (List (List Nat) × Nat)} (k : Prs H qs u) : ∀ {ps : List Addr} {t : List (List (List Nat) × Nat)}, Prs H ps t → Prs H (ps ++ qs) (t ++ u)
  | [], [], _ => k
  | _ :: _, _ :: _, ⟨a, b⟩ => ⟨a, Prs.app k b⟩
  | [], _ :: _, h => h.elim
  | _ :: _, [], h => h.elim
theorem Prs.app' {H : Hp} {ps qs : List Addr} {t u : List (List (List Nat) × Nat)} (h : Prs H ps t) (k : Prs H qs u) : Prs H (ps ++ qs) (t ++ u) := Prs.app k h
theorem prsE_run : ∀ (t : List (List (List Nat) × Nat)) {σ : L2.St} {H : Hp} {Q : List V → Hp → Prop}, (∀ e ∈ t, (∀ x ∈ e.1, x.length = e.1.length) ∧ e.1.length ≤ 1000) → (∀ ps H', Prs H' ps t → Same H H' → Q (ps.map V.ref) H') → prsE t σ H Q
  | [], _, H, _, _, q => q [] H trivial (Same.refl _)
  | e :: es, σ, H, Q, l, q => by
    show tTup (tCons (tLst (tabE e.1)) (tCons (tC (.int (e.2 : Nat))) tNil)) σ H (fun x H1 => prsE es σ H1 fun xs H2 => Q (x :: xs) H2)
    refine litT e.1 (Q := fun x H1 => tCons (tC (.int (e.2 : Nat))) tNil σ H1 fun xs H2 => (x :: xs).length ≤ sizeLine ∧ Rd.NewQ (.tup (x :: xs)) (fun x H1 => prsE es σ H1 fun xs H2 => Q (x :: xs) H2) H2) (l e (List.mem_cons_self ..)).1 (l e (List.mem_cons_self ..)).2 fun D G tD s => ?_
    refine ⟨by rw [sizeLine_eq]; exact Nat.le_of_ble_eq_true rfl, Rd.new fun p G2 np gp s2 => ?_⟩
    exact prsE_run es (Q := fun vs H => Q (.ref p :: vs) H) (fun y m => l y (List.mem_cons_of_mem _ m)) fun ps H' h s3 => q (p :: ps) H' ⟨⟨D, s3 _ _ gp, tD.same (s2.trans s3)⟩, h⟩ ((s.trans s2).trans s3)
theorem litP (t : List (List (List Nat) × Nat)) {σ : L2.St} {H : Hp} {Q : VK} (sq : ∀ e ∈ t, (∀ x ∈ e.1, x.length = e.1.length) ∧ e.1.length ≤ 1000) (l : t.length ≤ 1000) (k : ∀ D ps H', H' D = some (.lst (ps.map V.ref)) → Prs H' ps t → Same H H' → Q (.ref D) H') : tLst (prsE t) σ H Q := by
  refine prsE_run t (Q := fun vs H1 => vs.length ≤ sizeLine ∧ Rd.NewQ (.lst vs) Q H1) sq fun ps H1 h s => ⟨?_, Rd.new fun D G nD gD s2 => k D ps G gD (h.same s2) (s.trans s2)⟩
  rw [List.length_map, h.len, sizeLine_eq]
  omega
/-- [f(j) for ..]: flags -/
theorem lcBools {J : It} {n : Nat} {G : Hp → Prop} {Y : Nat → Hp → V → Hp → Prop} {σ : L2.St} {g : TG} {tt : TT} {te : TE} {vs : List Nat} {H1 : Hp} {Q : VK} (w : Walk J n G Y) (hG : ∀ H, Same H1 H → G H) (f : Nat → Bool) (n1 : n ≤ 1000)
    (hs : ∀ (j : Nat) (x : V) (H H' : Hp) (Q4 : VK) (P5 : Hp → Prop), j < n → Same H1 H → Y j H x H' → (∀ H4, Same H H4 → Q4 (.bl (f j)) H4) → g x (wipe σ vs) H' fun σ2 H2 => wipe σ2 vs = wipe σ vs ∧ tt σ2 H2 fun b H3 => if b = true then te σ2 H3 Q4 else P5 H3)
    (hd : ∀ (D : Addr) (H : Hp), H1 D = none → Same H1 H → H D = some (.lst (((List.range n).map f).map V.bl)) → Q (.ref D) H) : Rd.Lc J g tt te vs σ H1 Q := by
  refine Rd.lcS w hG (fun D i acc _ => acc = ((List.range i).map f).map V.bl) (fun _ _ _ _ _ => rfl) ?_ (fun D acc H nD hD sm e => hd D H nD sm (e ▸ hD))
  rintro D i x H H' acc nD hi hD sm rfl y
  refine hs i x H H' _ _ hi sm y fun H4 s4 => ?_
  refine Rd.lcPush (s4 _ _ hD) nD (sm.trans s4) (by rw [List.length_map, List.length_map, List.length_range, sizeLine_eq]; omega) fun _ _ _ => ?_
  rw [List.range_succ, List.map_append, List.map_append]
  rfl

end
end W

namespace W
open PySem PySem.Spec PyProof.Rows L2
section
variable {P : Program} {w : World} {K : PySem.W.Frag} {mg : Str → Option Value} {base : Heap}
open Mr (Rk joined joined_lt metF leftF rightF topF)
/-! ### reckonings as lists of joins, products, none and one -/
def ToldAt (H : Hp) (d : Addr) (n : Nat) (J M : Nat → Nat → Nat) (z o : Nat) : Prop := ∃ j p, H d = some (.lst [.ref j, .ref p, .int (z : Nat), .int (o : Nat)]) ∧ TblL H j n J ∧ TblL H p n M
theorem ToldAt.same {H H' : Hp} {d n z o : Nat} {J M : Nat → Nat → Nat} (h : ToldAt H d n J M z o) (s : Same H H') : ToldAt H' d n J M z o := let ⟨j, p, h0, h1, h2⟩ := h; ⟨j, p, s _ _ h0, h1.same s, h2.same s⟩
theorem ToldAt.tape {H H' : Hp} {t c d n z o : Nat} {J M : Nat → Nat → Nat} (ht : Tape H t c) (off : Rd.But t H H') (h : ToldAt H d n J M z o) : ToldAt H' d n J M z o := by
  obtain ⟨j, p, h0, h1, h2⟩ := h
  have nd : d ≠ t := by
    obtain ⟨ns, x, y, z, u, _, g, _⟩ := ht
    exact ne_of h0 g (fun e => nomatch e)
  exact ⟨j, p, off _ _ nd h0, h1.tape ht off, h2.tape ht off⟩
theorem told0 {H : Hp} {d : Addr} {xs : List V} {v : V} {k : Nat} {Q : VK} (h : H d = some (.lst xs)) (e : xs[k]? = some v) (q : Q v H) : rIxL K (.ref d) (.int (k : Nat)) H Q := Rd.ixL (.of h) (atI_nat e) q
theorem pop_perm {α : Type} : ∀ (xs : List α) (k : Nat) (x : α), xs[k]? = some x → xs.Perm (x :: xs.eraseIdx k)
  | [], _, _, h => by simp at h
  | y :: xs, 0, _, h => by cases (Option.some.inj h); exact List.Perm.refl _
  | y :: xs, k + 1, x, h => ((pop_perm xs k x h).cons y).trans (List.Perm.swap x y _)
theorem natL_erase : ∀ (xs : List Nat) (k : Nat), (natL xs).eraseIdx k = natL (xs.eraseIdx k)
  | [], _ => rfl
  | _ :: _, 0 => rfl
  | x :: xs, k + 1 => congrArg (V.int (x : Nat) :: ·) (natL_erase xs k)
theorem fdN (a m : Nat) : (a : Int) / (m : Int) = ((a / m : Nat) : Int) := (Int.natCast_ediv a m).symm
theorem mdN (a m : Nat) : (a : Int) % (m : Int) = ((a % m : Nat) : Int) := (Int.natCast_emod a m).symm

end
end W

namespace W
open PySem PySem.Spec PyProof.Rows L2
section
variable {P : Program} {w : World} {K : PySem.W.Frag} {mg : Str → Option Value} {base : Heap}
open Mr (Rk joined joined_lt metF leftF rightF topF)
def sp_l_products (K : PySem.W.Frag) : Sp := fun vs H Q _ => ∃ (t c : Addr), vs = [.ref t] ∧ Tape H t c ∧ ∀ D n M H', TblL H' D n M → Rk n Mr.mx M 0 (n - 1) → 2 ≤ n → n ≤ 5 → Tape H' t c → Rd.But t H H' → Q (.ref D) H'
def sp_l_monoid (K : PySem.W.Frag) : Sp := fun vs H Q _ => ∃ (t c : Addr), vs = [.ref t] ∧ Tape H t c ∧ ∀ p D m o P H', H' p = some (.tup [.ref D, .int (o : Nat)]) → TblL H' D m P → Mr.Lots P m o → Tape H' t c → Rd.But t H H' → Q (.ref p) H'
def sp_l_chain (K : PySem.W.Frag) : Sp := fun vs H Q _ => ∃ (p n : Nat) (M : Nat → Nat → Nat), vs = [.ref p] ∧ TblL H p n M ∧ 1 ≤ n ∧ n ≤ 20 ∧ ∀ d H', ToldAt H' d n Mr.mx M 0 (n - 1) → Same H H' → Q (.ref d) H'
def sp_l_lot (K : PySem.W.Frag) : Sp := fun vs H Q _ => ∃ (p m a b : Nat) (P : Nat → Nat → Nat), vs = [.ref p, .int (a : Nat), .int (b : Nat)] ∧ TblL H p m P ∧ m ≤ 16 ∧ (∀ a b, a < m → b < m → P a b < m) ∧ Q (.int (Mr.lotF P m a b : Nat)) H
def sp_l_lots (K : PySem.W.Frag) : Sp := fun vs H Q _ => ∃ (p m o : Nat) (P : Nat → Nat → Nat), vs = [.ref p, .int (o : Nat)] ∧ TblL H p m P ∧ Mr.Lots P m o ∧ ∀ d H', ToldAt H' d (2 ^ m) Mr.orF (Mr.lotF P m) 0 (2 ^ o) → Same H H' → Q (.ref d) H'
def sp_l_paired (K : PySem.W.Frag) : Sp := fun vs H Q _ => ∃ (a b n m : Nat) (F G : Nat → Nat → Nat), vs = [.ref a, .ref b] ∧ TblL H a n F ∧ TblL H b m G ∧ n * m ≤ 16 ∧ 0 < m ∧ ∀ D H', TblL H' D (n * m) (Mr.par m F G) → Same H H' → Q (.ref D) H'
def sp_l_beside (K : PySem.W.Frag) : Sp := fun vs H Q _ => ∃ (a b n m z o z' o' : Nat) (J M J' M' : Nat → Nat → Nat), vs = [.ref a, .ref b] ∧ ToldAt H a n J M z o ∧ ToldAt H b m J' M' z' o' ∧ n * m ≤ 16 ∧ 0 < m ∧ m ≤ 16 ∧ ∀ d H', ToldAt H' d (n * m) (Mr.par m J J') (Mr.par m M M') (z * m + z') (o * m + o') → Same H H' → Q (.ref d) H'
def sp_l_turned (K : PySem.W.Frag) : Sp := fun vs H Q _ => ∃ (a n z o : Nat) (J M : Nat → Nat → Nat), vs = [.ref a] ∧ ToldAt H a n J M z o ∧ n ≤ 16 ∧ ∀ d H', ToldAt H' d n J (fun x y => M y x) z o → Same H H' → Q (.ref d) H'
def sp_l_order (K : PySem.W.Frag) : Sp := fun vs H Q _ => ∃ (t c n : Nat), vs = [.ref t, .int (n : Nat)] ∧ Tape H t c ∧ n ≤ 16 ∧ ∀ l xs H', H' l = some (.lst (natL xs)) → Ms.Ord n xs → Tape H' t c → Rd.But t H H' → Q (.ref l) H'
def sp_l_renamed (K : PySem.W.Frag) : Sp := fun vs H Q _ => ∃ (a l n z o : Nat) (xs : List Nat) (J M : Nat → Nat → Nat), vs = [.ref a, .ref l] ∧ ToldAt H a n J M z o ∧ Rk n J M z o ∧ H l = some (.lst (natL xs)) ∧ Ms.Ord n xs ∧
  ∀ d H', ToldAt H' d n (Ms.nm (Ms.atF xs) (xs.idxOf ·) J) (Ms.nm (Ms.atF xs) (xs.idxOf ·) M) (Ms.atF xs z) (Ms.atF xs o) → Same H H' → Q (.ref d) H'
def sp_l_made (K : PySem.W.Frag) : Sp := fun vs H Q _ => ∃ (t c : Nat), vs = [.ref t] ∧ Tape H t c ∧ ∀ d n z o J M H', ToldAt H' d n J M z o → Rk n J M z o → Tape H' t c → Rd.But t H H' → Q (.ref d) H'
theorem ok_l_products (T : Txt K mg) : FnOk P w K mg base CX0 2 T.f_l_products T.fd_l_products ["_law_hand_here"] (sp_l_products K) := by
  refine T.F_l_products.ok sc_l_products (fun vs H Q E h => ?_) (fun cdv A outer s H vs Q E hr h => ?_)
  · obtain ⟨t, c, rfl, _⟩ := h
    rfl
  · obtain ⟨t, c, rfl, hT, k⟩ := h
    refine ⟨_, (pss_cons (ps_set (i := 1) sc_l_products.nd rfl (.inl rfl) (pe_call (ok_l_draw T) (hr.mono (by decide)) rfl T.g_l_draw T.F_l_draw.kp T.b_l_draw .nil pass0 (pa_cons (pv 0) (pa_cons pe_int pa_nil))))
  (pss_cons (ps_if (pt_cmpR op_eq (pv 1) pe_int (nomark _))
  (pss_one (ps_ret (pe_lst (pa_cons (pe_lst (pa_cons pe_int (pa_cons pe_int (pa_cons pe_int (pa_cons pe_int pa_nil))))) (pa_cons (pe_lst (pa_cons pe_int (pa_cons pe_int (pa_cons pe_int (pa_cons pe_int pa_nil))))) (pa_cons (pe_lst (pa_cons pe_int (pa_cons pe_int (pa_cons pe_int (pa_cons pe_int pa_nil))))) (pa_cons (pe_lst (pa_cons pe_int (pa_cons pe_int (pa_cons pe_int (pa_cons pe_int pa_nil))))) pa_nil)))))))
  pss_nil)
  (pss_cons (ps_set (i := 2) sc_l_products.nd rfl (.inr rfl) (pe_op op_add pe_int (pe_call (ok_l_draw T) (hr.mono (by decide)) rfl T.g_l_draw T.F_l_draw.kp T.b_l_draw .nil pass0 (pa_cons (pv 0) (pa_cons pe_int pa_nil)))))
  (pss_cons (ps_set (i := 3) sc_l_products.nd rfl (.inr rfl) (pe_op op_sub (pv 2) pe_int))
  (pss_cons (ps_if (pt_cmpR op_eq (pv 1) pe_int (nomark _))
  (pss_one (ps_ret (pe_lc (own := [("_law_a", 4)]) (g := gName 4) (tt := tYes) rfl sc_l_products.nd (pi_range1 rfl T.n_range (pa_cons (pv 2) pa_nil)) (blkOk_by (own := [("_law_a", 4)]) (N := ["_law_hand_here", "_law_kind", "_law_many", "_law_top", "_law_a", "_law_b"]) (sc := defScope s_l_products) (by decide +kernel)) (fun _ _ _ _ _ => (pg_name (i := 4) sc_l_products.nd rfl (by first | exact .inl rfl | exact .inr rfl))) (fun _ _ _ _ _ => pts_nil) (fun _ _ _ _ _ => (by exact (pe_lc (own := [("_law_b", 5)]) (g := gName 5) (tt := tYes) rfl sc_l_products.nd (pi_range1 rfl T.n_range (pa_cons (pv 2) pa_nil)) (blkOk_by (own := [("_law_b", 5)]) (N := ["_law_hand_here", "_law_kind", "_law_many", "_law_top", "_law_a", "_law_b"]) (by rfl)) (fun _ _ _ _ _ => (pg_name (i := 5) sc_l_products.nd rfl (by first | exact .inl rfl | exact .inr rfl))) (fun _ _ _ _ _ => pts_nil) (fun _ _ _ _ _ => (pe_callB (id := "min") (r := _) (Rd.c_min2 rfl) (by rfl) T.n_min (by decide +kernel) (pa_cons (pv 4) (pa_cons (pv 5) pa_nil))))))))))
  pss_nil)
  (pss_cons (ps_if (pt_cmpR op_eq (pv 1) pe_int (nomark _))
  (pss_one (ps_ret (pe_lc (own := [("_law_a", 4)]) (g := gName 4) (tt := tYes) rfl sc_l_products.nd (pi_range1 rfl T.n_range (pa_cons (pv 2) pa_nil)) (blkOk_by (own := [("_law_a", 4)]) (N := ["_law_hand_here", "_law_kind", "_law_many", "_law_top", "_law_a", "_law_b"]) (sc := defScope s_l_products) (by decide +kernel)) (fun _ _ _ _ _ => (pg_name (i := 4) sc_l_products.nd rfl (by first | exact .inl rfl | exact .inr rfl))) (fun _ _ _ _ _ => pts_nil) (fun _ _ _ _ _ => (by exact (pe_lc (own := [("_law_b", 5)]) (g := gName 5) (tt := tYes) rfl sc_l_products.nd (pi_range1 rfl T.n_range (pa_cons (pv 2) pa_nil)) (blkOk_by (own := [("_law_b", 5)]) (N := ["_law_hand_here", "_law_kind", "_law_many", "_law_top", "_law_a", "_law_b"]) (by rfl)) (fun _ _ _ _ _ => (pg_name (i := 5) sc_l_products.nd rfl (by first | exact .inl rfl | exact .inr rfl))) (fun _ _ _ _ _ => pts_nil) (fun _ _ _ _ _ => (pe_callB (id := "max") (r := _) (Rd.c_max2 rfl) (by rfl) T.n_max (by decide +kernel) (pa_cons pe_int (pa_cons (pe_op op_sub (pe_op op_add (pv 4) (pv 5)) (pv 3)) pa_nil))))))))))
  pss_nil)
  (pss_one (ps_ret (pe_lc (own := [("_law_a", 4)]) (g := gName 4) (tt := tYes) rfl sc_l_products.nd (pi_range1 rfl T.n_range (pa_cons (pv 2) pa_nil)) (blkOk_by (own := [("_law_a", 4)]) (N := ["_law_hand_here", "_law_kind", "_law_many", "_law_top", "_law_a", "_law_b"]) (sc := defScope s_l_products) (by decide +kernel)) (fun _ _ _ _ _ => (pg_name (i := 4) sc_l_products.nd rfl (by first | exact .inl rfl | exact .inr rfl))) (fun _ _ _ _ _ => pts_nil) (fun _ _ _ _ _ => (by exact (pe_lc (own := [("_law_b", 5)]) (g := gName 5) (tt := tYes) rfl sc_l_products.nd (pi_range1 rfl T.n_range (pa_cons (pv 2) pa_nil)) (blkOk_by (own := [("_law_b", 5)]) (N := ["_law_hand_here", "_law_kind", "_law_many", "_law_top", "_law_a", "_law_b"]) (by rfl)) (fun _ _ _ _ _ => (pg_name (i := 5) sc_l_products.nd rfl (by first | exact .inl rfl | exact .inr rfl))) (fun _ _ _ _ _ => pts_nil) (fun _ _ _ _ _ => (pe_op op_mul (pe_callB (id := "min") (r := _) (Rd.c_min2 rfl) (by rfl) T.n_min (by decide +kernel) (pa_cons (pv 4) (pa_cons (pv 5) pa_nil))) (pe_callTy (T := "int") (r := _) Rd.c_int (by rfl) T.n_int (by decide +kernel) (pa_cons (pe_or (pe_cmpR op_eq (pv 4) (pv 3) (nomark _)) (pe_one (pe_cmpR op_eq (pv 5) (pv 3) (nomark _)))) pa_nil)))))))))))))))), ?_⟩
    walk_at "rd"
    refine ⟨t, c, 4, rfl, hT, by decide, by decide, fun r H1 r0 r1 hT1 b1 => ?_⟩
    walk_at "rd"
    by_cases e3 : r = 3
    · refine Rd.yes e3 ?_
      refine Rd.ret (litT Mr.sp4 (by decide) (by decide) fun D H2 tD s2 => ?_)
      exact k D 4 _ H2 tD Mr.sp4_ok (by decide) (by decide) (hT1.same s2) (b1.same s2)
    refine Rd.no e3 ?_
    walk_at "rd"
    refine ⟨t, c, 4, rfl, hT1, by decide, by decide, fun q H2 q0 q1 hT2 b2 => ?_⟩
    have b12 := b1.trans b2
    obtain ⟨n, hn, n2, n5⟩ : ∃ n : Nat, 2 + q = (n : Int) ∧ 2 ≤ n ∧ n ≤ 5 := ⟨(2 + q).toNat, by omega, by omega, by omega⟩
    walk_at "rd"
    rw [hn]
    have hm1 : (n : Int) - 1 = ((n - 1 : Nat) : Int) := by omega
    walk_at "rd"
    rw [hm1]
    by_cases e0 : r = 0
    · refine Rd.yes e0 ?_
      walk_at "rd"
      refine ⟨by omega, by omega, ?_⟩
      refine lcTbl (n := n) walk_range (fun _ _ => trivial) HO.lst (Mr.tmF 0 n) n (by omega) (fun i x Hc _ Q4 P5 hi sm y q => ?_) fun D rs H7 nD s7 hD hR => ?_
      · obtain ⟨rfl, hx⟩ := y
        obtain rfl := rg0 hx
        walk_at "rd"
        refine ⟨rfl, ?_⟩
        walk_at "rd"
        refine ⟨by omega, by omega, ?_⟩
        refine lcNums (n := n) walk_range (fun _ _ => trivial) (Mr.tmF 0 n i) (by omega) (fun w x Hd _ Q6 P7 hw sm2 y q2 => ?_) fun D2 H8 nD2 s8 hD2 => q D2 H8 s8 nD2 hD2
        obtain ⟨rfl, hx⟩ := y
        obtain rfl := rg0 hx
        walk_at "rd"
        refine ⟨rfl, ?_⟩
        walk_at "rd"
        rw [show min (i : Int) (w : Int) = ((Mr.tmF 0 n i w : Nat) : Int) by unfold Mr.tmF; rw [if_pos rfl]; omega]
        exact q2 _ (Same.refl _)
      · exact k D n _ H7 (hR.lists hD) (Mr.chain_ok 0 (by decide) n n2 n5) n2 n5 (hT2.same s7) (b12.same s7)
    refine Rd.no e0 ?_
    walk_at "rd"
    by_cases e1 : r = 1
    · refine Rd.yes e1 ?_
      walk_at "rd"
      refine ⟨by omega, by omega, ?_⟩
      refine lcTbl (n := n) walk_range (fun _ _ => trivial) HO.lst (Mr.tmF 1 n) n (by omega) (fun i x Hc _ Q4 P5 hi sm y q => ?_) fun D rs H7 nD s7 hD hR => ?_
      · obtain ⟨rfl, hx⟩ := y
        obtain rfl := rg0 hx
        walk_at "rd"
        refine ⟨rfl, ?_⟩
        walk_at "rd"
        refine ⟨by omega, by omega, ?_⟩
        refine lcNums (n := n) walk_range (fun _ _ => trivial) (Mr.tmF 1 n i) (by omega) (fun w x Hd _ Q6 P7 hw sm2 y q2 => ?_) fun D2 H8 nD2 s8 hD2 => q D2 H8 s8 nD2 hD2
        obtain ⟨rfl, hx⟩ := y
        obtain rfl := rg0 hx
        walk_at "rd"
        refine ⟨rfl, ?_⟩
        walk_at "rd"
        rw [show max 0 ((i : Int) + (w : Int) - ((n - 1 : Nat) : Int)) = ((Mr.tmF 1 n i w : Nat) : Int) by unfold Mr.tmF; rw [if_neg (by decide), if_pos rfl]; omega]
        exact q2 _ (Same.refl _)
      · exact k D n _ H7 (hR.lists hD) (Mr.chain_ok 1 (by decide) n n2 n5) n2 n5 (hT2.same s7) (b12.same s7)
    refine Rd.no e1 ?_
    walk_at "rd"
    refine ⟨by omega, by omega, ?_⟩
    refine lcTbl (n := n) walk_range (fun _ _ => trivial) HO.lst (Mr.tmF 2 n) n (by omega) (fun i x Hc _ Q4 P5 hi sm y q => ?_) fun D rs H7 nD s7 hD hR => ?_
    · obtain ⟨rfl, hx⟩ := y
      obtain rfl := rg0 hx
      walk_at "rd"
      refine ⟨rfl, ?_⟩
      walk_at "rd"
      refine ⟨by omega, by omega, ?_⟩
      refine lcNums (n := n) walk_range (fun _ _ => trivial) (Mr.tmF 2 n i) (by omega) (fun w x Hd _ Q6 P7 hw sm2 y q2 => ?_) fun D2 H8 nD2 s8 hD2 => q D2 H8 s8 nD2 hD2
      obtain ⟨rfl, hx⟩ := y
      obtain rfl := rg0 hx
      walk_at "rd"
      refine ⟨rfl, ?_⟩
      walk_at "rd"
      have fin : ∀ k : Bool, (k = true ↔ (i = n - 1 ∨ w = n - 1)) → min (i : Int) (w : Int) * (if k = true then 1 else 0) = ((Mr.tmF 2 n i w : Nat) : Int) := by
        intro k hk
        rw [show Mr.tmF 2 n i w = min i w * (if i = n - 1 ∨ w = n - 1 then 1 else 0) from rfl]
        by_cases c : i = n - 1 ∨ w = n - 1
        · rw [if_pos (hk.mpr c), if_pos c]
          omega
        · rw [if_neg (fun e => c (hk.mp e)), if_neg c]
          omega
      by_cases ci : i = n - 1
      · refine Rd.yes (by omega) ?_
        walk_at "rd"
        refine Rd.intB ?_
        walk_at "rd"
        refine Rd.iC (.inl (by omega)) ?_
        rw [fin true ⟨fun _ => .inl ci, fun _ => rfl⟩]
        exact q2 _ (Same.refl _)
      · refine Rd.no (by omega) ?_
        walk_at "rd"
        refine Rd.intB ?_
        walk_at "rd"
        refine Rd.iC (.inl (by omega)) ?_
        rw [fin _ ⟨fun e => .inr (by have := of_decide_eq_true e; omega), fun e => decide_eq_true (by omega)⟩]
        exact q2 _ (Same.refl _)
    · exact k D n _ H7 (hR.lists hD) (Mr.chain_ok 2 (by decide) n n2 n5) n2 n5 (hT2.same s7) (b12.same s7)
theorem ok_l_monoid (T : Txt K mg) : FnOk P w K mg base CX0 2 T.f_l_monoid T.fd_l_monoid ["_law_hand_here"] (sp_l_monoid K) := by
  refine T.F_l_monoid.ok sc_l_monoid (fun vs H Q E h => ?_) (fun cdv A outer s H vs Q E hr h => ?_)
  · obtain ⟨t, c, rfl, _⟩ := h
    rfl
  · obtain ⟨t, c, rfl, hT, k⟩ := h
    refine ⟨_, (pss_cons (ps_set (i := 1) sc_l_monoid.nd rfl (.inl rfl) (pe_lst (pa_cons (pe_tup (pa_cons (pe_lst (pa_cons (pe_lst (pa_cons pe_int (pa_cons pe_int pa_nil))) (pa_cons (pe_lst (pa_cons pe_int (pa_cons pe_int pa_nil))) pa_nil))) (pa_cons pe_int pa_nil))) (pa_cons (pe_tup (pa_cons (pe_lst (pa_cons (pe_lst (pa_cons pe_int (pa_cons pe_int pa_nil))) (pa_cons (pe_lst (pa_cons pe_int (pa_cons pe_int pa_nil))) pa_nil))) (pa_cons pe_int pa_nil))) (pa_cons (pe_tup (pa_cons (pe_lst (pa_cons (pe_lst (pa_cons pe_int (pa_cons pe_int pa_nil))) (pa_cons (pe_lst (pa_cons pe_int (pa_cons pe_int pa_nil))) pa_nil))) (pa_cons pe_int pa_nil))) pa_nil)))))
  (pss_cons (ps_set (i := 1) sc_l_monoid.nd rfl (.inl rfl) (pe_op op_cat (pv 1) (pe_lst (pa_cons (pe_tup (pa_cons (pe_lst (pa_cons (pe_lst (pa_cons pe_int (pa_cons pe_int (pa_cons pe_int pa_nil)))) (pa_cons (pe_lst (pa_cons pe_int (pa_cons pe_int (pa_cons pe_int pa_nil)))) (pa_cons (pe_lst (pa_cons pe_int (pa_cons pe_int (pa_cons pe_int pa_nil)))) pa_nil)))) (pa_cons pe_int pa_nil))) (pa_cons (pe_tup (pa_cons (pe_lst (pa_cons (pe_lst (pa_cons pe_int (pa_cons pe_int (pa_cons pe_int pa_nil)))) (pa_cons (pe_lst (pa_cons pe_int (pa_cons pe_int (pa_cons pe_int pa_nil)))) (pa_cons (pe_lst (pa_cons pe_int (pa_cons pe_int (pa_cons pe_int pa_nil)))) pa_nil)))) (pa_cons pe_int pa_nil))) pa_nil)))))
  (pss_cons (ps_set (i := 1) sc_l_monoid.nd rfl (.inl rfl) (pe_op op_cat (pv 1) (pe_lst (pa_cons (pe_tup (pa_cons (pe_lst (pa_cons (pe_lst (pa_cons pe_int (pa_cons pe_int (pa_cons pe_int pa_nil)))) (pa_cons (pe_lst (pa_cons pe_int (pa_cons pe_int (pa_cons pe_int pa_nil)))) (pa_cons (pe_lst (pa_cons pe_int (pa_cons pe_int (pa_cons pe_int pa_nil)))) pa_nil)))) (pa_cons pe_int pa_nil))) (pa_cons (pe_tup (pa_cons (pe_lst (pa_cons (pe_lst (pa_cons pe_int (pa_cons pe_int (pa_cons pe_int pa_nil)))) (pa_cons (pe_lst (pa_cons pe_int (pa_cons pe_int (pa_cons pe_int pa_nil)))) (pa_cons (pe_lst (pa_cons pe_int (pa_cons pe_int (pa_cons pe_int pa_nil)))) pa_nil)))) (pa_cons pe_int pa_nil))) pa_nil)))))
  (pss_one (ps_ret (pe_ix (r := rIxL K) ix_list (pv 1) (pe_call (ok_l_draw T) (hr.mono (by decide)) rfl T.g_l_draw T.F_l_draw.kp T.b_l_draw .nil pass0 (pa_cons (pv 0) (pa_cons pe_int pa_nil))) (fun _ _ => rfl))))))), ?_⟩
    with_reducible refine Rd.seq ?_
    with_reducible refine Rd.asg ?_
    refine (litP [([[0, 1], [1, 1]], 0), ([[0, 1], [1, 0]], 0), ([[0, 0], [0, 1]], 1)] (by decide) (by decide) fun A1 p1 H1 hA pA sA => ?_)
    with_reducible refine Rd.name ?_
    with_reducible refine Rd.seq ?_
    with_reducible refine Rd.asg ?_
    with_reducible refine Rd.op ?_
    with_reducible refine Rd.var rfl ?_
    refine litP [([[0, 1, 2], [1, 1, 1], [2, 2, 2]], 0), ([[0, 1, 2], [1, 1, 2], [2, 1, 2]], 0)] (by decide) (by decide) fun A2 p2 H2 hB pB sB => ?_
    refine Rd.cat (sB _ _ hA) hB (by rw [List.length_map, List.length_map, pA.len, pB.len, sizeLine_eq]; show 3 + 2 ≤ _; omega) (Rd.new fun A3 H3 n3 hC sC => ?_)
    rw [← List.map_append] at hC
    have pC := ((pA.same sB).same sC).app' (pB.same sC)
    with_reducible refine Rd.name ?_
    with_reducible refine Rd.seq ?_
    with_reducible refine Rd.asg ?_
    with_reducible refine Rd.op ?_
    with_reducible refine Rd.var rfl ?_
    refine litP [([[0, 0, 0], [0, 1, 2], [2, 2, 2]], 1), ([[0, 1, 2], [1, 2, 0], [2, 0, 1]], 0)] (by decide) (by decide) fun A4 p4 H4 hD pD sD => ?_
    refine Rd.cat (sD _ _ hC) hD (by rw [List.length_map, List.length_map, pC.len, pD.len, sizeLine_eq]; show 5 + 2 ≤ _; omega) (Rd.new fun A5 H5 n5 hE sE => ?_)
    rw [← List.map_append] at hE
    have pE := ((pC.same sD).same sE).app' (pD.same sE)
    have s5 := (((sA.trans sB).trans sC).trans sD).trans sE
    have hT5 := hT.same s5
    clear hA pA sA hB pB sB hC pC sC hD pD sD sE
    walk_at "rd"
    refine ⟨t, c, 7, rfl, hT5, by decide, by decide, fun r H6 r0 r1 hT6 b6 => ?_⟩
    have at5 : A5 ≠ t := by
      obtain ⟨ns, x, y, z, u, _, g, _⟩ := hT5
      exact ne_of hE g fun e => refs_ne_tape (HO.lst.inj e)
    have l7 := pE.len
    obtain ⟨i, rfl⟩ : ∃ i : Nat, r = (i : Int) := ⟨r.toNat, by omega⟩
    have i7 : i < (p1 ++ p2 ++ p4).length := by rw [l7]; show i < 7; omega
    have ge := List.getElem?_eq_getElem i7
    obtain ⟨e, D, me, hp, tD⟩ := pE.get ge
    refine Rd.ixL (.of (b6 _ _ at5 hE)) (atI_nat (Rd.map_ref i7)) ?_
    have nt : (p1 ++ p2 ++ p4)[i] ≠ t := by
      obtain ⟨ns, x, y, z, u, _, g, _⟩ := hT5
      exact ne_of hp g (fun e => nomatch e)
    exact k _ D e.1.length e.2 _ H6 (b6 _ _ nt hp) (tD.tape hT5 b6) (Mr.lots_of (Mr.lots_all e me)) hT6 fun b u nb e => b6 b u nb (s5 _ _ e)
theorem ok_l_chain (T : Txt K mg) : FnOk P w K mg base CX0 1 T.f_l_chain T.fd_l_chain ["_law_products_here"] (sp_l_chain K) := by
  refine T.F_l_chain.ok sc_l_chain (fun vs H Q E h => ?_) (fun cdv A outer s H vs Q E hr h => ?_)
  · obtain ⟨p, n, M, rfl, _⟩ := h
    rfl
  · obtain ⟨p, n, M, rfl, hM, n1, n16, k⟩ := h
    refine ⟨_, (pss_cons (ps_set (i := 1) sc_l_chain.nd rfl (.inr rfl) (pe_callB (id := "len") (r := Rd.nLen K) Rd.c_len (by rfl) T.n_len (by decide +kernel) (pa_cons (pv 0) pa_nil)))
  (pss_one (ps_ret (pe_lst (pa_cons (pe_lc (own := [("_law_a", 2)]) (g := gName 2) (tt := tYes) rfl sc_l_chain.nd (pi_range1 rfl T.n_range (pa_cons (pv 1) pa_nil)) (blkOk_by (own := [("_law_a", 2)]) (N := ["_law_products_here", "_law_many", "_law_a", "_law_b"]) (sc := defScope s_l_chain) (by decide +kernel)) (fun _ _ _ _ _ => (pg_name (i := 2) sc_l_chain.nd rfl (by first | exact .inl rfl | exact .inr rfl))) (fun _ _ _ _ _ => pts_nil) (fun _ _ _ _ _ => (by exact (pe_lc (own := [("_law_b", 3)]) (g := gName 3) (tt := tYes) rfl sc_l_chain.nd (pi_range1 rfl T.n_range (pa_cons (pv 1) pa_nil)) (blkOk_by (own := [("_law_b", 3)]) (N := ["_law_products_here", "_law_many", "_law_a", "_law_b"]) (by rfl)) (fun _ _ _ _ _ => (pg_name (i := 3) sc_l_chain.nd rfl (by first | exact .inl rfl | exact .inr rfl))) (fun _ _ _ _ _ => pts_nil) (fun _ _ _ _ _ => (pe_callB (id := "max") (r := _) (Rd.c_max2 rfl) (by rfl) T.n_max (by decide +kernel) (pa_cons (pv 2) (pa_cons (pv 3) pa_nil)))))))) (pa_cons (pv 0) (pa_cons pe_int (pa_cons (pe_op op_sub (pv 1) pe_int) pa_nil)))))))), ?_⟩
    walk_at "rd"
    refine (hM.any (K := K)).len ?_
    walk_at "rd"
    refine ⟨by omega, by omega, ?_⟩
    refine lcTbl (n := n) walk_range (fun _ _ => trivial) HO.lst (Mr.mx) (n) (by omega) (fun i x Hc _ Q4 P5 hi sm y q => ?_) fun D rs HD nD sD hD hRD => ?_
    · obtain ⟨rfl, hx⟩ := y
      obtain rfl := rg0 hx
      walk_at "rd"
      refine ⟨rfl, ?_⟩
      walk_at "rd"
      refine ⟨by omega, by omega, ?_⟩
      refine lcNums (n := n) walk_range (fun _ _ => trivial) ((Mr.mx) i) (by omega) (fun w x Hd _ Q6 P7 hw sm2 y q2 => ?_) fun D2 H8 nD2 s8 hD2 => q D2 H8 s8 nD2 hD2
      obtain ⟨rfl, hx⟩ := y
      obtain rfl := rg0 hx
      have s12 := sm.trans sm2
      walk_at "rd"
      refine ⟨rfl, ?_⟩
      walk_at "rd"
      rw [maxN]
      exact q2 _ (Same.refl _)
    walk_at "rd"
    refine ⟨Nat.le_of_ble_eq_true rfl, Rd.new fun d G nd gd sd => ?_⟩
    rw [show ((n : Nat) : Int) - 1 = ((n - 1 : Nat) : Int) by omega] at gd
    exact k d G ⟨D, p, gd, (hRD.lists hD).same sd, hM.same (sD.trans sd)⟩ (sD.trans sd)
theorem ok_l_lot (T : Txt K mg) : FnOk P w K mg base CX0 1 T.f_l_lot T.fd_l_lot ["_law_products_here", "_law_one_here", "_law_other"] (sp_l_lot K) := by
  refine T.F_l_lot.ok sc_l_lot (fun vs H Q E h => ?_) (fun cdv A outer s H vs Q E hr h => ?_)
  · obtain ⟨p, m, a, b, P, rfl, _⟩ := h
    rfl
  · obtain ⟨p, m, a, b, P, rfl, hP, m16, cl, k⟩ := h
    refine ⟨_, (pss_cons (ps_set (i := 3) sc_l_lot.nd rfl (.inl rfl) pe_int)
  (pss_cons (ps_set (i := 4) sc_l_lot.nd rfl (.inl rfl) (pe_callB (id := "len") (r := Rd.nLen K) Rd.c_len (by rfl) T.n_len (by decide +kernel) (pa_cons (pv 0) pa_nil)))
  (pss_cons (ps_for PassesOwn.never rfl (pi_range1 rfl T.n_range (pa_cons (pv 4) pa_nil)) (pg_name (i := 5) sc_l_lot.nd rfl (.inl rfl))
  (pss_one (ps_for PassesOwn.never rfl (pi_range1 rfl T.n_range (pa_cons (pv 4) pa_nil)) (pg_name (i := 6) sc_l_lot.nd rfl (.inl rfl))
  (pss_one (ps_if (PW.pt (pw_and (pt_cmpR op_eq (pe_op op_and (pe_op op_shr (pv 1) (pv 5)) pe_int) pe_int (nomark _)) (pw_and1 (pt_cmpR op_eq (pe_op op_and (pe_op op_shr (pv 2) (pv 6)) pe_int) pe_int (nomark _)))))
  (pss_one (ps_set (i := 3) sc_l_lot.nd rfl (.inl rfl) (pe_op op_or (pv 3) (pe_op op_shl pe_int (pe_ix (r := rIxL K) ix_list (pe_ix (r := rIxL K) ix_list (pv 0) (pv 5) (fun _ _ => rfl)) (pv 6) (fun _ _ => rfl))))))
  pss_nil)))))
  (pss_one (ps_ret (pv 3)))))), ?_⟩
    walk_at "rd"
    refine (hP.any (K := K)).len ?_
    walk_at "rd"
    refine Rd.forS ?_
    walk_at "rd"
    refine ⟨by omega, by omega, ?_⟩
    refine for_range (lo := 0) (n := m) (fun i σ H' => ∃ (o5 o6 : Option V), σ = [some (.ref p), some (.int (a : Nat)), some (.int (b : Nat)), some (.int ((List.range i).foldl (fun f x => (List.range m).foldl (fun f y => if Mr.bitB a x = true ∧ Mr.bitB b y = true then f ||| 2 ^ P x y else f) f) 0 : Nat)), some (.int (m : Nat)), o5, o6] ∧ H' = H) ⟨_, _, rfl, rfl⟩ ?_ ?_
    · rintro x _ H1 hx ⟨o5, o6, rfl, eH⟩
      obtain rfl : H = H1 := eH.symm
      rw [show 0 + (x : Int) = x from Int.zero_add _, List.range_succ, List.foldl_append]
      generalize (List.range x).foldl (fun f x => (List.range m).foldl (fun f y => if Mr.bitB a x = true ∧ Mr.bitB b y = true then f ||| 2 ^ P x y else f) f) 0 = f0
      walk_at "rd"
      refine Rd.forS ?_
      walk_at "rd"
      refine ⟨by omega, by omega, ?_⟩
      refine for_range (lo := 0) (n := m) (fun i σ H' => ∃ (o6 : Option V), σ = [some (.ref p), some (.int (a : Nat)), some (.int (b : Nat)), some (.int ((List.range i).foldl (fun f y => if Mr.bitB a x = true ∧ Mr.bitB b y = true then f ||| 2 ^ P x y else f) f0 : Nat)), some (.int (m : Nat)), some (.int (x : Nat)), o6] ∧ H' = H) ⟨_, rfl, rfl⟩ ?_ ?_
      · rintro y _ H1 hy ⟨o6, rfl, eH⟩
        obtain rfl : H = H1 := eH.symm
        rw [show 0 + (y : Int) = y from Int.zero_add _, List.range_succ, List.foldl_append]
        generalize (List.range y).foldl (fun f y => if Mr.bitB a x = true ∧ Mr.bitB b y = true then f ||| 2 ^ P x y else f) f0 = f1
        have pq := cl x y hx hy
        walk_at "rd"
        refine Rd.iC (by omega) ?_
        walk_at "rd"
        rw [Rb.bitN]
        walk_at "rd"
        by_cases c1 : a / 2 ^ x % 2 = 1
        · refine Rd.yes (by omega) ?_
          walk_at "rd"
          refine Rd.iC (by omega) ?_
          walk_at "rd"
          rw [Rb.bitN]
          walk_at "rd"
          by_cases c2 : b / 2 ^ y % 2 = 1
          · refine Rd.yes (by omega) ?_
            walk_at "rd"
            refine hP.two hx hy (vr rfl) ?_
            walk_at "rd"
            refine Rd.iC ⟨by omega, by omega, by decide⟩ ?_
            rw [Rb.shl1]
            walk_at "rd"
            rw [Rb.orN]
            refine ⟨some (.int (y : Nat)), ?_, rfl⟩
            rw [List.foldl_cons, List.foldl_nil, if_pos ⟨decide_eq_true c1, decide_eq_true c2⟩]
            rfl
          · refine Rd.no (by omega) ?_
            walk_at "rd"
            refine ⟨some (.int (y : Nat)), ?_, rfl⟩
            rw [List.foldl_cons, List.foldl_nil, if_neg fun e => c2 (of_decide_eq_true e.2)]
            rfl
        · refine Rd.no (by omega) ?_
          walk_at "rd"
          refine ⟨some (.int (y : Nat)), ?_, rfl⟩
          rw [List.foldl_cons, List.foldl_nil, if_neg fun e => c1 (of_decide_eq_true e.1)]
          rfl
      · rintro _ _ ⟨o6, rfl, rfl⟩
        walk_at "rd"
        exact ⟨_, _, rfl, rfl⟩
    · rintro _ _ ⟨o5, o6, rfl, rfl⟩
      rw [← Ms.lot_eq]
      walk_at "rd"
      exact k
theorem ok_l_lots (T : Txt K mg) : FnOk P w K mg base CX0 2 T.f_l_lots T.fd_l_lots ["_law_products_here", "_law_one_here"] (sp_l_lots K) := by
  refine T.F_l_lots.ok sc_l_lots (fun vs H Q E h => ?_) (fun cdv A outer s H vs Q E hr h => ?_)
  · obtain ⟨p, m, o, P, rfl, _⟩ := h
    rfl
  · obtain ⟨p, m, o, P, rfl, hP, L, k⟩ := h
    refine ⟨_, (pss_cons (ps_set (i := 2) sc_l_lots.nd rfl (.inr rfl) (pe_op op_shl pe_int (pe_callB (id := "len") (r := Rd.nLen K) Rd.c_len (by rfl) T.n_len (by decide +kernel) (pa_cons (pv 0) pa_nil))))
  (pss_cons (ps_setLc (i := 3) (own := [("_law_a", 4)]) (g := gName 4) (tt := tYes) rfl sc_l_lots.nd rfl rfl (sw_true rfl rfl rfl (by decide +kernel)) (pi_range1 rfl T.n_range (pa_cons (pv 2) pa_nil)) (blkOk_by (own := [("_law_a", 4)]) (N := ["_law_products_here", "_law_one_here", "_law_size", "_law_joins", "_law_a", "_law_b"]) (sc := defScope s_l_lots) (by decide +kernel)) (fun _ _ _ _ _ => (pg_name (i := 4) sc_l_lots.nd rfl (by first | exact .inl rfl | exact .inr rfl))) (fun _ _ _ _ _ => pts_nil) (fun _ _ _ _ _ => (by exact (pe_lc (own := [("_law_b", 5)]) (g := gName 5) (tt := tYes) rfl sc_l_lots.nd (pi_range1 rfl T.n_range (pa_cons (pv 2) pa_nil)) (blkOk_by (own := [("_law_b", 5)]) (N := ["_law_products_here", "_law_one_here", "_law_size", "_law_joins", "_law_a", "_law_b"]) (by rfl)) (fun _ _ _ _ _ => (pg_name (i := 5) sc_l_lots.nd rfl (by first | exact .inl rfl | exact .inr rfl))) (fun _ _ _ _ _ => pts_nil) (fun _ _ _ _ _ => (pe_op op_or (pv 4) (pv 5)))))))
  (pss_one (ps_ret (pe_lst (pa_cons (pv 3) (pa_cons (pe_lc (own := [("_law_a", 4)]) (g := gName 4) (tt := tYes) rfl sc_l_lots.nd (pi_range1 rfl T.n_range (pa_cons (pv 2) pa_nil)) (blkOk_by (own := [("_law_a", 4)]) (N := ["_law_products_here", "_law_one_here", "_law_size", "_law_joins", "_law_a", "_law_b"]) (sc := defScope s_l_lots) (by decide +kernel)) (fun _ _ _ _ _ => (pg_name (i := 4) sc_l_lots.nd rfl (by first | exact .inl rfl | exact .inr rfl))) (fun _ _ _ _ _ => pts_nil) (fun _ _ _ _ _ => (by exact (pe_lc (own := [("_law_b", 5)]) (g := gName 5) (tt := tYes) rfl sc_l_lots.nd (pi_range1 rfl T.n_range (pa_cons (pv 2) pa_nil)) (blkOk_by (own := [("_law_b", 5)]) (N := ["_law_products_here", "_law_one_here", "_law_size", "_law_joins", "_law_a", "_law_b"]) (by rfl)) (fun _ _ _ _ _ => (pg_name (i := 5) sc_l_lots.nd rfl (by first | exact .inl rfl | exact .inr rfl))) (fun _ _ _ _ _ => pts_nil) (fun _ _ _ _ _ => (pe_call (ok_l_lot T) (hr.mono (by decide)) rfl T.g_l_lot T.F_l_lot.kp T.b_l_lot .nil pass0 (pa_cons (pv 0) (pa_cons (pv 4) (pa_cons (pv 5) pa_nil))))))))) (pa_cons pe_int (pa_cons (pe_op op_shl pe_int (pv 1)) pa_nil))))))))), ?_⟩
    have m3 := L.m3
    have om := L.om
    have p16 := L.rk.n16
    have p0 : (0 : Int) ≤ ((2 ^ m : Nat) : Int) := Int.natCast_nonneg _
    walk_at "rd"
    refine (hP.any (K := K)).len ?_
    walk_at "rd"
    refine Rd.iC ⟨by omega, by omega, by decide⟩ ?_
    rw [Rb.shl1]
    walk_at "rd"
    refine ⟨by omega, by omega, ?_⟩
    refine lcTbl (n := 2 ^ m) walk_range (fun _ _ => trivial) HO.lst (Mr.orF) (2 ^ m) (by omega) (fun i x Hc _ Q4 P5 hi sm y q => ?_) fun D rs HD nD sD hD hRD => ?_
    · obtain ⟨rfl, hx⟩ := y
      obtain rfl := rg0 hx
      walk_at "rd"
      refine ⟨rfl, ?_⟩
      walk_at "rd"
      refine ⟨by omega, by omega, ?_⟩
      refine lcNums (n := 2 ^ m) walk_range (fun _ _ => trivial) ((Mr.orF) i) (by omega) (fun w x Hd _ Q6 P7 hw sm2 y q2 => ?_) fun D2 H8 nD2 s8 hD2 => q D2 H8 s8 nD2 hD2
      obtain ⟨rfl, hx⟩ := y
      obtain rfl := rg0 hx
      have s12 := sm.trans sm2
      walk_at "rd"
      refine ⟨rfl, ?_⟩
      walk_at "rd"
      rw [Rb.orN]
      exact q2 _ (Same.refl _)
    have tD := hRD.lists hD
    clear hRD hD nD
    walk_at "rd"
    refine ⟨by omega, by omega, ?_⟩
    refine lcTbl (n := 2 ^ m) walk_range (fun _ _ => trivial) HO.lst (Mr.lotF P m) (2 ^ m) (by omega) (fun i x Hc _ Q4 P5 hi sm y q => ?_) fun E1 rs HE nE sE hE hRE => ?_
    · obtain ⟨rfl, hx⟩ := y
      obtain rfl := rg0 hx
      walk_at "rd"
      refine ⟨rfl, ?_⟩
      walk_at "rd"
      refine ⟨by omega, by omega, ?_⟩
      refine lcNums (n := 2 ^ m) walk_range (fun _ _ => trivial) ((Mr.lotF P m) i) (by omega) (fun w x Hd _ Q6 P7 hw sm2 y q2 => ?_) fun D2 H8 nD2 s8 hD2 => q D2 H8 s8 nD2 hD2
      obtain ⟨rfl, hx⟩ := y
      obtain rfl := rg0 hx
      have s12 := sm.trans sm2
      walk_at "rd"
      refine ⟨rfl, ?_⟩
      walk_at "rd"
      refine ⟨p, m, i, w, P, rfl, hP.same (sD.trans s12), by omega, L.cl, ?_⟩
      exact q2 _ (Same.refl _)
    walk_at "rd"
    refine Rd.iC ⟨by omega, by omega, by decide⟩ ?_
    rw [Rb.shl1]
    walk_at "rd"
    refine ⟨Nat.le_of_ble_eq_true rfl, Rd.new fun d G nd gd sd => ?_⟩
    exact k d G ⟨D, E1, gd, tD.same (sE.trans sd), (hRE.lists hE).same sd⟩ ((sD.trans sE).trans sd)
theorem ok_l_paired (T : Txt K mg) : FnOk P w K mg base CX0 1 T.f_l_paired T.fd_l_paired ["_law_one_here", "_law_other"] (sp_l_paired K) := by
  refine T.F_l_paired.ok sc_l_paired (fun vs H Q E h => ?_) (fun cdv A outer s H vs Q E hr h => ?_)
  · obtain ⟨a, b, n, m, F, G, rfl, _⟩ := h
    rfl
  · obtain ⟨a, b, n, m, F, G, rfl, hF, hG, nm, m0, k⟩ := h
    refine ⟨_, (pss_cons (ps_set (i := 2) sc_l_paired.nd rfl (.inl rfl) (pe_callB (id := "len") (r := Rd.nLen K) Rd.c_len (by rfl) T.n_len (by decide +kernel) (pa_cons (pv 1) pa_nil)))
  (pss_cons (ps_set (i := 3) sc_l_paired.nd rfl (.inl rfl) (pe_lst pa_nil))
  (pss_cons (ps_for PassesOwn.never rfl (pi_range1 rfl T.n_range (pa_cons (pe_op op_mul (pe_callB (id := "len") (r := Rd.nLen K) Rd.c_len (by rfl) T.n_len (by decide +kernel) (pa_cons (pv 0) pa_nil)) (pv 2)) pa_nil)) (pg_name (i := 4) sc_l_paired.nd rfl (.inl rfl))
  (pss_cons (ps_set (i := 5) sc_l_paired.nd rfl (.inl rfl) (pe_lst pa_nil))
  (pss_cons (ps_for PassesOwn.never rfl (pi_range1 rfl T.n_range (pa_cons (pe_op op_mul (pe_callB (id := "len") (r := Rd.nLen K) Rd.c_len (by rfl) T.n_len (by decide +kernel) (pa_cons (pv 0) pa_nil)) (pv 2)) pa_nil)) (pg_name (i := 6) sc_l_paired.nd rfl (.inl rfl))
  (pss_one (ps_expr (pe_bm PySem.F.plainAttrs_list PySem.F.slot_list_append PySem.F.type_list_append mt_append (pv 5) (pa_cons (pe_op op_add (pe_op op_mul (pe_ix (r := rIxL K) ix_list (pe_ix (r := rIxL K) ix_list (pv 0) (pe_op op_fdiv (pv 4) (pv 2)) (fun _ _ => rfl)) (pe_op op_fdiv (pv 6) (pv 2)) (fun _ _ => rfl)) (pv 2)) (pe_ix (r := rIxL K) ix_list (pe_ix (r := rIxL K) ix_list (pv 1) (pe_op op_mod (pe_callTy (T := "int") (r := _) Rd.c_int (by rfl) T.n_int (by decide +kernel) (pa_cons (pv 4) pa_nil)) (pv 2)) (fun _ _ => rfl)) (pe_op op_mod (pe_callTy (T := "int") (r := _) Rd.c_int (by rfl) T.n_int (by decide +kernel) (pa_cons (pv 6) pa_nil)) (pv 2)) (fun _ _ => rfl))) pa_nil)))))
  (pss_one (ps_expr (pe_bm PySem.F.plainAttrs_list PySem.F.slot_list_append PySem.F.type_list_append mt_append (pv 3) (pa_cons (pv 5) pa_nil)))))))
  (pss_one (ps_ret (pv 3)))))), ?_⟩
    have n16 : n ≤ 16 := Nat.le_trans (Nat.le_mul_of_pos_right n m0) nm
    walk_at "rd"
    refine (hG.any (K := K)).len ?_
    walk_at "rd"
    refine ⟨Nat.le_of_ble_eq_true rfl, Rd.new fun D H1 nD gD s1 => ?_⟩
    walk_at "rd"
    refine Rd.forS ?_
    walk_at "rd"
    refine ((hF.same s1).any (K := K)).len ?_
    walk_at "rd"
    refine Rd.iC (.inl (by omega)) ?_
    rw [show (n : Int) * (m : Int) = ((n * m : Nat) : Int) by push_cast; rfl]
    walk_at "rd"
    refine ⟨by omega, by omega, ?_⟩
    refine for_range (lo := 0) (n := n * m) (fun i σ H' => ∃ (rs : List Addr) (o4 o5 o6 : Option V), σ = [some (.ref a), some (.ref b), some (.int (m : Nat)), some (.ref D), o4, o5, o6] ∧ Same H H' ∧ H' D = some (.lst (rs.map V.ref)) ∧ rs.length = i ∧ ∀ j r, rs[j]? = some r → r ≠ D ∧ H' r = some (.lst (rowV (Mr.par m F G j) (n * m)))) ⟨[], _, _, _, rfl, s1, gD, rfl, fun _ _ e => by simp at e⟩ ?_ ?_
    · rintro i _ H2 hi ⟨rs, o4, o5, o6, rfl, s2, gD2, rl, hrs⟩
      rw [show 0 + (i : Int) = i from Int.zero_add _]
      have m16 : m ≤ 16 := by
        rcases Nat.eq_zero_or_pos n with e | e
        · rw [e] at hi; omega
        · exact Nat.le_trans (Nat.le_mul_of_pos_left m e) nm
      have mi : (0 : Int) < (m : Int) ∧ (m : Int) < 1073741824 := by omega
      obtain ⟨i1, i2, _⟩ := Mr.ps hi
      walk_at "rd"
      refine ⟨Nat.le_of_ble_eq_true rfl, Rd.new fun R H3 nR gR s3 => ?_⟩
      have RD : R ≠ D := (ne_of_none gD2 nR).symm
      walk_at "rd"
      refine Rd.forS ?_
      walk_at "rd"
      refine ((hF.same (s2.trans s3)).any (K := K)).len ?_
      walk_at "rd"
      refine Rd.iC (.inl (by omega)) ?_
      rw [show (n : Int) * (m : Int) = ((n * m : Nat) : Int) by push_cast; rfl]
      walk_at "rd"
      refine ⟨by omega, by omega, ?_⟩
      refine for_range (lo := 0) (n := n * m) (fun j σ H' => ∃ (o6 : Option V), σ = [some (.ref a), some (.ref b), some (.int (m : Nat)), some (.ref D), some (.int (i : Nat)), some (.ref R), o6] ∧ Same H2 H' ∧ H' R = some (.lst (rowV (Mr.par m F G i) j))) ⟨_, rfl, s3, gR⟩ ?_ ?_
      · rintro w _ H4 hw ⟨o6, rfl, s4, gR4⟩
        rw [show 0 + (w : Int) = w from Int.zero_add _]
        obtain ⟨w1, w2, _⟩ := Mr.ps hw
        have s24 := s2.trans s4
        walk_at "rd"
        refine Rd.tyL (.of gR4) ?_
        walk_at "rd"
        refine Rd.iC mi ?_
        rw [fdN]
        refine (hF.same s24).one i1 fun r hr => ?_
        walk_at "rd"
        refine Rd.iC mi ?_
        rw [fdN]
        refine rowL hr w1 ?_
        walk_at "rd"
        refine Rd.iC (.inr (by omega)) ?_
        walk_at "rd"
        refine Rd.iC mi.1 ?_
        rw [mdN]
        refine (hG.same s24).one i2 fun r hr => ?_
        walk_at "rd"
        refine Rd.iC mi.1 ?_
        rw [mdN]
        refine rowL hr w2 ?_
        walk_at "rd"
        rw [show ((F (i / m) (w / m) : Nat) : Int) * (m : Int) + ((G (i % m) (w % m) : Nat) : Int) = ((Mr.par m F G i w : Nat) : Int) by unfold Mr.par; push_cast; rfl]
        refine Rd.app gR4 (by rw [rowV_len, sizeLine_eq]; omega) fun H5 g5 off5 => ?_
        rw [rowV_snoc] at g5
        walk_at "rd"
        exact ⟨_, rfl, fun c u e => by rw [off5 c (ne_of_none e nR)]; exact s4 _ _ e, g5⟩
      · rintro _ H4 ⟨o6, rfl, s4, gR4⟩
        walk_at "rd"
        refine Rd.tyL (.of (s4 _ _ gD2)) ?_
        walk_at "rd"
        refine Rd.app (s4 _ _ gD2) (by rw [List.length_map, sizeLine_eq]; omega) fun H5 g5 off5 => ?_
        walk_at "rd"
        refine ⟨rs ++ [R], _, _, _, rfl, fun c u e => ?_, by rw [g5, List.map_append]; rfl, by rw [List.length_append, rl]; rfl, fun j r e => ?_⟩
        · rw [off5 c (ne_of_none e nD)]
          exact s4 _ _ (s2 _ _ e)
        · rcases Nat.lt_or_ge j rs.length with c | c
          · rw [List.getElem?_append_left c] at e
            obtain ⟨h1, h2⟩ := hrs j r e
            refine ⟨h1, ?_⟩
            rw [off5 r h1]
            exact s4 _ _ h2
          · rw [List.getElem?_append_right c] at e
            have : j = rs.length := by
              have := (List.getElem?_eq_some_iff.mp e).1
              rw [List.length_singleton] at this
              omega
            subst this
            rw [Nat.sub_self] at e
            cases (Option.some.inj e)
            refine ⟨RD, ?_⟩
            rw [off5 R RD, rl]
            exact gR4
    · rintro _ H2 ⟨rs, o4, o5, o6, rfl, s2, gD2, rl, hrs⟩
      walk_at "rd"
      exact k D H2 ⟨rs, gD2, rl, fun j r e => (hrs j r e).2⟩ s2
theorem ok_l_beside (T : Txt K mg) : FnOk P w K mg base CX0 2 T.f_l_beside T.fd_l_beside ["_law_one_here", "_law_other"] (sp_l_beside K) := by
  refine T.F_l_beside.ok sc_l_beside (fun vs H Q E h => ?_) (fun cdv A outer s H vs Q E hr h => ?_)
  · obtain ⟨a, b, n, m, z, o, z', o', J, M, J', M', rfl, _⟩ := h
    rfl
  · obtain ⟨a, b, n, m, z, o, z', o', J, M, J', M', rfl, ⟨j, p, hA, hJ, hM⟩, ⟨j', p', hB, hJ', hM'⟩, nm, m0, m16, k⟩ := h
    refine ⟨_, (pss_cons (ps_set (i := 2) sc_l_beside.nd rfl (.inl rfl) (pe_callB (id := "len") (r := Rd.nLen K) Rd.c_len (by rfl) T.n_len (by decide +kernel) (pa_cons (pe_ix (r := rIxL K) ix_list (pv 1) pe_int (fun _ _ => rfl)) pa_nil)))
  (pss_cons (ps_set (i := 3) sc_l_beside.nd rfl (.inl rfl) (pe_lst (pa_cons (pe_call (ok_l_paired T) (hr.mono (by decide)) rfl T.g_l_paired T.F_l_paired.kp T.b_l_paired .nil pass0 (pa_cons (pe_ix (r := rIxL K) ix_list (pv 0) pe_int (fun _ _ => rfl)) (pa_cons (pe_ix (r := rIxL K) ix_list (pv 1) pe_int (fun _ _ => rfl)) pa_nil))) (pa_cons (pe_call (ok_l_paired T) (hr.mono (by decide)) rfl T.g_l_paired T.F_l_paired.kp T.b_l_paired .nil pass0 (pa_cons (pe_ix (r := rIxL K) ix_list (pv 0) pe_int (fun _ _ => rfl)) (pa_cons (pe_ix (r := rIxL K) ix_list (pv 1) pe_int (fun _ _ => rfl)) pa_nil))) pa_nil))))
  (pss_one (ps_ret (pe_op op_cat (pv 3) (pe_lst (pa_cons (pe_op op_add (pe_op op_mul (pe_ix (r := rIxL K) ix_list (pv 0) pe_int (fun _ _ => rfl)) (pv 2)) (pe_ix (r := rIxL K) ix_list (pv 1) pe_int (fun _ _ => rfl))) (pa_cons (pe_op op_add (pe_op op_mul (pe_ix (r := rIxL K) ix_list (pv 0) pe_int (fun _ _ => rfl)) (pv 2)) (pe_ix (r := rIxL K) ix_list (pv 1) pe_int (fun _ _ => rfl))) pa_nil)))))))), ?_⟩
    walk_at "rd"
    refine told0 (k := 0) hB rfl ?_
    walk_at "rd"
    refine (hJ'.any (K := K)).len ?_
    walk_at "rd"
    refine told0 (k := 0) hA rfl ?_
    walk_at "rd"
    refine told0 (k := 0) hB rfl ?_
    walk_at "rd"
    refine ⟨j, j', n, m, J, J', rfl, hJ, hJ', nm, m0, fun D H1 tD s1 => ?_⟩
    walk_at "rd"
    refine told0 (k := 1) (s1 _ _ hA) rfl ?_
    walk_at "rd"
    refine told0 (k := 1) (s1 _ _ hB) rfl ?_
    walk_at "rd"
    refine ⟨p, p', n, m, M, M', rfl, hM.same s1, hM'.same s1, nm, m0, fun E1 H2 tE s2 => ?_⟩
    have s12 := s1.trans s2
    walk_at "rd"
    refine ⟨Nat.le_of_ble_eq_true rfl, Rd.new fun d G nd gd s3 => ?_⟩
    have s13 := s12.trans s3
    walk_at "rd"
    refine told0 (k := 2) (s13 _ _ hA) rfl ?_
    walk_at "rd"
    refine Rd.iC (.inr (by omega)) ?_
    walk_at "rd"
    refine told0 (k := 2) (s13 _ _ hB) rfl ?_
    walk_at "rd"
    refine told0 (k := 3) (s13 _ _ hA) rfl ?_
    walk_at "rd"
    refine Rd.iC (.inr (by omega)) ?_
    walk_at "rd"
    refine told0 (k := 3) (s13 _ _ hB) rfl ?_
    walk_at "rd"
    refine ⟨Nat.le_of_ble_eq_true rfl, Rd.new fun e G2 ne2 ge s4 => ?_⟩
    refine Rd.cat (s4 _ _ gd) ge (by rw [sizeLine_eq]; exact Nat.le_of_ble_eq_true rfl) (Rd.new fun u G3 nu gu s5 => ?_)
    have s15 := (s13.trans s4).trans s5
    rw [show (z : Int) * (m : Int) + (z' : Int) = ((z * m + z' : Nat) : Int) by push_cast; rfl, show (o : Int) * (m : Int) + (o' : Int) = ((o * m + o' : Nat) : Int) by push_cast; rfl] at gu
    exact k u G3 ⟨D, E1, gu, tD.same (((s2.trans s3).trans s4).trans s5), tE.same ((s3.trans s4).trans s5)⟩ s15
theorem ok_l_turned (T : Txt K mg) : FnOk P w K mg base CX0 1 T.f_l_turned T.fd_l_turned ["_law_told"] (sp_l_turned K) := by
  refine T.F_l_turned.ok sc_l_turned (fun vs H Q E h => ?_) (fun cdv A outer s H vs Q E hr h => ?_)
  · obtain ⟨a, n, z, o, J, M, rfl, _⟩ := h
    rfl
  · obtain ⟨a, n, z, o, J, M, rfl, ⟨j, p, hA, hJ, hM⟩, n16, k⟩ := h
    refine ⟨_, (pss_cons (ps_set (i := 1) sc_l_turned.nd rfl (.inr rfl) (pe_callB (id := "len") (r := Rd.nLen K) Rd.c_len (by rfl) T.n_len (by decide +kernel) (pa_cons (pe_ix (r := rIxL K) ix_list (pv 0) pe_int (fun _ _ => rfl)) pa_nil)))
  (pss_one (ps_ret (pe_lst (pa_cons (pe_ix (r := rIxL K) ix_list (pv 0) pe_int (fun _ _ => rfl)) (pa_cons (pe_lc (own := [("_law_a", 2)]) (g := gName 2) (tt := tYes) rfl sc_l_turned.nd (pi_range1 rfl T.n_range (pa_cons (pv 1) pa_nil)) (blkOk_by (own := [("_law_a", 2)]) (N := ["_law_told", "_law_many", "_law_a", "_law_b"]) (sc := defScope s_l_turned) (by decide +kernel)) (fun _ _ _ _ _ => (pg_name (i := 2) sc_l_turned.nd rfl (by first | exact .inl rfl | exact .inr rfl))) (fun _ _ _ _ _ => pts_nil) (fun _ _ _ _ _ => (by exact (pe_lc (own := [("_law_b", 3)]) (g := gName 3) (tt := tYes) rfl sc_l_turned.nd (pi_range1 rfl T.n_range (pa_cons (pv 1) pa_nil)) (blkOk_by (own := [("_law_b", 3)]) (N := ["_law_told", "_law_many", "_law_a", "_law_b"]) (by rfl)) (fun _ _ _ _ _ => (pg_name (i := 3) sc_l_turned.nd rfl (by first | exact .inl rfl | exact .inr rfl))) (fun _ _ _ _ _ => pts_nil) (fun _ _ _ _ _ => (pe_ix (r := rIxL K) ix_list (pe_ix (r := rIxL K) ix_list (pe_ix (r := rIxL K) ix_list (pv 0) pe_int (fun _ _ => rfl)) (pv 3) (fun _ _ => rfl)) (pv 2) (fun _ _ => rfl))))))) (pa_cons (pe_ix (r := rIxL K) ix_list (pv 0) pe_int (fun _ _ => rfl)) (pa_cons (pe_ix (r := rIxL K) ix_list (pv 0) pe_int (fun _ _ => rfl)) pa_nil)))))))), ?_⟩
    walk_at "rd"
    refine told0 (k := 1) hA rfl ?_
    walk_at "rd"
    refine (hM.any (K := K)).len ?_
    walk_at "rd"
    refine told0 (k := 0) hA rfl ?_
    walk_at "rd"
    refine ⟨by omega, by omega, ?_⟩
    refine lcTbl (n := n) walk_range (fun _ _ => trivial) HO.lst (fun x y => M y x) (n) (by omega) (fun i x Hc _ Q4 P5 hi sm y q => ?_) fun D rs HD nD sD hD hRD => ?_
    · obtain ⟨rfl, hx⟩ := y
      obtain rfl := rg0 hx
      walk_at "rd"
      refine ⟨rfl, ?_⟩
      walk_at "rd"
      refine ⟨by omega, by omega, ?_⟩
      refine lcNums (n := n) walk_range (fun _ _ => trivial) ((fun x y => M y x) i) (by omega) (fun w x Hd _ Q6 P7 hw sm2 y q2 => ?_) fun D2 H8 nD2 s8 hD2 => q D2 H8 s8 nD2 hD2
      obtain ⟨rfl, hx⟩ := y
      obtain rfl := rg0 hx
      have s12 := sm.trans sm2
      walk_at "rd"
      refine ⟨rfl, ?_⟩
      walk_at "rd"
      refine told0 (k := 1) (s12 _ _ hA) rfl ?_
      walk_at "rd"
      refine (hM.same s12).two hw hi (vr rfl) ?_
      exact q2 _ (Same.refl _)
    walk_at "rd"
    refine told0 (k := 2) (sD _ _ hA) rfl ?_
    walk_at "rd"
    refine told0 (k := 3) (sD _ _ hA) rfl ?_
    walk_at "rd"
    refine ⟨Nat.le_of_ble_eq_true rfl, Rd.new fun d G nd gd sd => ?_⟩
    exact k d G ⟨j, D, gd, hJ.same (sD.trans sd), (hRD.lists hD).same sd⟩ (sD.trans sd)

end
end W

namespace W
open PySem PySem.Spec PyProof.Rows L2
section
variable {P : Program} {w : World} {K : PySem.W.Frag} {mg : Str → Option Value} {base : Heap}
open Mr (Rk joined joined_lt metF leftF rightF topF)
/-! ### reckonings as lists: orders, worths named anew, all kinds -/
theorem ok_l_order (T : Txt K mg) : FnOk P w K mg base CX0 2 T.f_l_order T.fd_l_order ["_law_hand_here", "_law_many"] (sp_l_order K) := by
  refine T.F_l_order.ok sc_l_order (fun vs H Q E h => ?_) (fun cdv A outer s H vs Q E hr h => ?_)
  · obtain ⟨t, c, n, rfl, _⟩ := h
    rfl
  · obtain ⟨t, c, n, rfl, hT, n16, k⟩ := h
    refine ⟨_, (pss_cons (ps_set (i := 2) sc_l_order.nd rfl (.inl rfl) (pe_listRg rfl (by rfl) T.n_list (prg_1 (by rfl) T.n_range (pv 1))))
  (pss_cons (ps_set (i := 3) sc_l_order.nd rfl (.inl rfl) (pe_lst pa_nil))
  (pss_cons (ps_for PassesOwn.never rfl (pi_range1 rfl T.n_range (pa_cons (pv 1) pa_nil)) (pg_name (i := 4) sc_l_order.nd rfl (.inl rfl))
  (pss_one (ps_expr (pe_bm PySem.F.plainAttrs_list PySem.F.slot_list_append PySem.F.type_list_append mt_append (pv 3) (pa_cons (pe_bm PySem.F.plainAttrs_list PySem.F.slot_list_pop PySem.F.type_list_pop mt_popAt (pv 2) (pa_cons (pe_call (ok_l_draw T) (hr.mono (by decide)) rfl T.g_l_draw T.F_l_draw.kp T.b_l_draw .nil pass0 (pa_cons (pv 0) (pa_cons (pe_callB (id := "len") (r := Rd.nLen K) Rd.c_len (by rfl) T.n_len (by decide +kernel) (pa_cons (pv 2) pa_nil)) pa_nil))) pa_nil)) pa_nil)))))
  (pss_one (ps_ret (pv 3)))))), ?_⟩
    walk_at "rd"
    refine ⟨⟨by omega, by omega⟩, Rd.new fun l H1 nl gl s1 => ?_⟩
    rw [Rd.rgV0] at gl
    have gl : H1 l = some (.lst (natL (List.range n))) := gl
    walk_at "rd"
    refine ⟨Nat.le_of_ble_eq_true rfl, Rd.new fun f H2 nf gf s2 => ?_⟩
    have lf : l ≠ f := ne_of_none gl nf
    have hT1 := hT.same s1
    have lt : l ≠ t := by
      obtain ⟨ns, x, y, z, u, _, g, _⟩ := hT
      exact (ne_of_none g nl).symm
    have ft : f ≠ t := by
      obtain ⟨ns, x, y, z, u, _, g, _⟩ := hT1
      exact (ne_of_none g nf).symm
    have hc : c ≠ l ∧ c ≠ f := by
      obtain ⟨ns, x, y, z, u, _, _, g, _⟩ := hT
      exact ⟨ne_of_none g nl, ne_of_none (s1 _ _ g) nf⟩
    walk_at "rd"
    refine Rd.forS ?_
    walk_at "rd"
    refine ⟨by omega, by omega, ?_⟩
    refine for_range (lo := 0) (n := n) (fun i σ H' => ∃ (rs fs : List Nat) (o4 : Option V), σ = [some (.ref t), some (.int (n : Nat)), some (.ref l), some (.ref f), o4] ∧ H' l = some (.lst (natL rs)) ∧ H' f = some (.lst (natL fs)) ∧ rs.length + i = n ∧ fs.length = i ∧ (fs ++ rs).Perm (List.range n) ∧ Tape H' t c ∧ Rd.But t H H') ⟨List.range n, [], _, rfl, s2 _ _ gl, gf, by rw [List.length_range]; rfl, rfl, List.Perm.refl _, hT1.same s2, fun b u _ e => s2 _ _ (s1 _ _ e)⟩ ?_ ?_
    · rintro i _ H3 hi ⟨rs, fs, o4, rfl, gl3, gf3, rl, fl, pm, hT3, b3⟩
      walk_at "rd"
      refine Rd.tyL (.of gf3) ?_
      walk_at "rd"
      refine Rd.tyL (.of gl3) ?_
      walk_at "rd"
      refine Rd.len (.inl (.of gl3)) ?_
      rw [natL_len]
      walk_at "rd"
      refine ⟨t, c, _, rfl, hT3, by omega, by omega, fun r H4 r0 r1 hT4 b4 => ?_⟩
      obtain ⟨x, rfl⟩ : ∃ a : Nat, r = (a : Int) := ⟨r.toNat, by omega⟩
      have xl : x < rs.length := by omega
      have gx := List.getElem?_eq_getElem xl
      walk_at "rd"
      refine Rd.popAt (b4 _ _ lt gl3) r0 (by rw [natL_len]; omega) (by rw [natL_len]; omega) (natL_at (by rw [Int.toNat_natCast]; exact gx)) fun H5 g5 off5 => ?_
      rw [Int.toNat_natCast, natL_erase] at g5
      have gf5 : H5 f = some (.lst (natL fs)) := by
        rw [off5 f lf.symm]
        exact b4 _ _ ft gf3
      walk_at "rd"
      refine Rd.app gf5 (by rw [natL_len, sizeLine_eq]; omega) fun H6 g6 off6 => ?_
      rw [natL_snoc] at g6
      walk_at "rd"
      have el := List.length_eraseIdx_of_lt xl
      refine ⟨rs.eraseIdx x, fs ++ [rs[x]], _, rfl, by rw [off6 l lf]; exact g5, g6, by omega, by rw [List.length_append, fl]; rfl, ?_, ?_, fun b u nb e => ?_⟩
      · rw [List.append_assoc]
        exact ((pop_perm rs x _ gx).symm.append_left fs).trans pm
      · obtain ⟨ns, x, y, z, u, h1, h2, h3, h4⟩ := hT4
        refine ⟨ns, x, y, z, u, h1, ?_, ?_, h4⟩
        · rw [off6 t ft.symm, off5 t lt.symm]
          exact h2
        · rw [off6 c hc.2, off5 c hc.1]
          exact h3
      · rw [off6 b (ne_of_none (s1 _ _ e) nf), off5 b (ne_of_none e nl)]
        exact b4 _ _ nb (b3 _ _ nb e)
    · rintro _ H3 ⟨rs, fs, o4, rfl, gl3, gf3, rl, fl, pm, hT3, b3⟩
      walk_at "rd"
      have : rs = [] := List.eq_nil_of_length_eq_zero (by omega)
      rw [this, List.append_nil] at pm
      exact k f fs H3 gf3 (Ms.ord_of pm) hT3 b3
theorem natL_flat (xs : List Nat) : (natL xs).all flatV = true := by
  rw [List.all_eq_true]
  intro v m
  obtain ⟨i, h, e⟩ := List.getElem_of_mem m
  obtain ⟨j, _, rfl⟩ := natL_get (e ▸ List.getElem?_eq_getElem h)
  rfl
theorem idx_before : ∀ (xs : List Nat) (a j : Nat), j < xs.idxOf a → xs[j]? ≠ some a
  | [], a, j, h => by simp at h
  | x :: xs, a, j, h => by
    rw [List.idxOf_cons] at h
    cases e : x == a with
    | true => rw [e] at h; exact absurd h (Nat.not_lt_zero j)
    | false =>
      rw [e] at h
      cases j with
      | zero =>
        intro k
        rw [Option.some.inj k, beq_self_eq_true] at e
        cases e
      | succ j => exact idx_before xs a j (Nat.lt_of_succ_lt_succ h)
theorem natIdx {l : Addr} {xs : List Nat} {a : Nat} {H : Hp} {Q : VK} (h : SqL K H l (natL xs)) (m : a ∈ xs) (q : Q (.int (xs.idxOf a : Nat)) H) : rIndex K (.ref l) [.int (a : Nat)] H Q := by
  have l0 := List.idxOf_lt_length_iff.mpr m
  refine ⟨l, natL xs, .int (a : Nat), xs.idxOf a, .int (a : Nat), rfl, rfl, h, rfl, natL_flat xs, natL_at (by rw [List.getElem?_eq_getElem l0, List.getElem_idxOf l0]), ?_, fun j z hj hz => ?_, q⟩
  · show decide _ = true
    simp
  · obtain ⟨x, hx, rfl⟩ := natL_get hz
    have hne : ((x : Int) == (a : Int)) = false := by
      rw [beq_eq_false_iff_ne]
      intro e
      have : x = a := by omega
      exact idx_before xs a j hj (this ▸ hx)
    exact hne
theorem tbl_refs {H H' : Hp} {D a : Addr} {n : Nat} {F : Nat → Nat → Nat} {ps : List Addr} (hD : H D = some (.lst (ps.map V.ref))) (n0 : 0 < n) (ne : a ≠ D) (off : ∀ c, c ≠ D → H' c = H c) (h : TblL H a n F) : TblL H' a n F := by
  obtain ⟨rs, h1, h2, h3⟩ := h
  refine ⟨rs, by rw [off a ne]; exact h1, h2, fun i r e => ?_⟩
  rw [off r (ne_of (h3 i r e) hD fun e => ?_)]
  · exact h3 i r e
  · have e := HO.lst.inj e
    have l := congrArg List.length e
    rw [rowV_len, List.length_map] at l
    have h0 := rowV_get (f := F i) n0
    rw [e, List.getElem?_map] at h0
    cases hp : ps[0]? with
    | none => rw [hp] at h0; cases h0
    | some v => rw [hp] at h0; cases h0
theorem TblL.rowAt {H : Hp} {a : Addr} {n i : Nat} {F : Nat → Nat → Nat} {Q : VK} (h : TblL H a n F) (hi : i < n) (k : ∀ r, SqL K H r (rowV (F i) n) → Q (.ref r) H) : rIxL K (.ref a) (.int (i : Nat)) H Q := h.one hi k
theorem natIx {l : Addr} {xs : List Nat} {n i : Nat} {H : Hp} {Q : VK} (O : Ms.Ord n xs) (h : SqL K H l (natL xs)) (hi : i < n) (q : Q (.int (Ms.atF xs i : Nat)) H) : rIxL K (.ref l) (.int (i : Nat)) H Q :=
  Rd.ixL h (atI_nat (natL_at (Ms.atF_eq (by rw [O.len]; exact hi)))) q
theorem ok_l_renamed (T : Txt K mg) : FnOk P w K mg base CX0 1 T.f_l_renamed T.fd_l_renamed ["_law_told", "_law_order_here"] (sp_l_renamed K) := by
  refine T.F_l_renamed.ok sc_l_renamed (fun vs H Q E h => ?_) (fun cdv A outer s H vs Q E hr h => ?_)
  · obtain ⟨a, l, n, z, o, xs, J, M, rfl, _⟩ := h
    rfl
  · obtain ⟨a, l, n, z, o, xs, J, M, rfl, ⟨j, p, hA, hJ, hM⟩, R, hl, O, k⟩ := h
    refine ⟨_, (pss_cons (ps_set (i := 2) sc_l_renamed.nd rfl (.inr rfl) (pe_callB (id := "len") (r := Rd.nLen K) Rd.c_len (by rfl) T.n_len (by decide +kernel) (pa_cons (pv 1) pa_nil)))
  (pss_cons (ps_set (i := 3) sc_l_renamed.nd rfl (.inr rfl) (pe_lc (own := [("_law_a", 6)]) (g := gName 6) (tt := tYes) rfl sc_l_renamed.nd (pi_range1 rfl T.n_range (pa_cons (pv 2) pa_nil)) (blkOk_by (own := [("_law_a", 6)]) (N := ["_law_told", "_law_order_here", "_law_many", "_law_back", "_law_parts", "_law_rows", "_law_a", "_law_b"]) (sc := defScope s_l_renamed) (by decide +kernel)) (fun _ _ _ _ _ => (pg_name (i := 6) sc_l_renamed.nd rfl (.inl rfl))) (fun _ _ _ _ _ => pts_nil) (fun _ _ _ _ _ => (pe_bm PySem.F.plainAttrs_list PySem.F.slot_list_index PySem.F.type_list_index mt_index (pv 1) (pa_cons (pv 6) pa_nil) : PE _ _ (tBM K _ (rIndex K) _ _)))))
  (pss_cons (ps_set (i := 4) sc_l_renamed.nd rfl (.inl rfl) (pe_lst pa_nil))
  (pss_cons (ps_for PassesOwn.never rfl (pi_list (pe_slice (r := rSlL K) sl_list (pv 0) po_none (po_some pe_int))) (pg_name (i := 5) sc_l_renamed.nd rfl (.inr rfl))
  (pss_one (ps_expr (pe_bm PySem.F.plainAttrs_list PySem.F.slot_list_append PySem.F.type_list_append mt_append (pv 4) (pa_cons (pe_lc (own := [("_law_a", 6)]) (g := gName 6) (tt := tYes) rfl sc_l_renamed.nd (pi_range1 rfl T.n_range (pa_cons (pv 2) pa_nil)) (blkOk_by (own := [("_law_a", 6)]) (N := ["_law_told", "_law_order_here", "_law_many", "_law_back", "_law_parts", "_law_rows", "_law_a", "_law_b"]) (sc := defScope s_l_renamed) (by decide +kernel)) (fun _ _ _ _ _ => (pg_name (i := 6) sc_l_renamed.nd rfl (by first | exact .inl rfl | exact .inr rfl))) (fun _ _ _ _ _ => pts_nil) (fun _ _ _ _ _ => (by exact (pe_lc (own := [("_law_b", 7)]) (g := gName 7) (tt := tYes) rfl sc_l_renamed.nd (pi_range1 rfl T.n_range (pa_cons (pv 2) pa_nil)) (blkOk_by (own := [("_law_b", 7)]) (N := ["_law_told", "_law_order_here", "_law_many", "_law_back", "_law_parts", "_law_rows", "_law_a", "_law_b"]) (by rfl)) (fun _ _ _ _ _ => (pg_name (i := 7) sc_l_renamed.nd rfl (by first | exact .inl rfl | exact .inr rfl))) (fun _ _ _ _ _ => pts_nil) (fun _ _ _ _ _ => (pe_ix (r := rIxL K) ix_list (pv 1) (pe_ix (r := rIxL K) ix_list (pe_ix (r := rIxL K) ix_list (pv 5) (pe_ix (r := rIxL K) ix_list (pv 3) (pv 6) (fun _ _ => rfl)) (fun _ _ => rfl)) (pe_ix (r := rIxL K) ix_list (pv 3) (pv 7) (fun _ _ => rfl)) (fun _ _ => rfl)) (fun _ _ => rfl))))))) pa_nil)))))
  (pss_one (ps_ret (pe_op op_cat (pv 4) (pe_lst (pa_cons (pe_ix (r := rIxL K) ix_list (pv 1) (pe_ix (r := rIxL K) ix_list (pv 0) pe_int (fun _ _ => rfl)) (fun _ _ => rfl)) (pa_cons (pe_ix (r := rIxL K) ix_list (pv 1) (pe_ix (r := rIxL K) ix_list (pv 0) pe_int (fun _ _ => rfl)) (fun _ _ => rfl)) pa_nil)))))))))), ?_⟩
    have n16 := R.n16
    have n2 := R.n2
    walk_at "rd"
    refine Rd.len (.inl (.of hl)) ?_
    rw [natL_len, O.len]
    walk_at "rd"
    refine ⟨by omega, by omega, ?_⟩
    refine lcNums (n := n) walk_range (fun _ _ => trivial) (xs.idxOf ·) (by omega) (fun w x Hd _ Q6 P7 hw sm2 y q2 => ?_) fun B H1 nB s1 gB => ?_
    · obtain ⟨rfl, hx⟩ := y
      obtain rfl := rg0 hx
      walk_at "rd"
      refine ⟨rfl, ?_⟩
      walk_at "rd"
      refine Rd.tyL (.of (sm2 _ _ hl)) ?_
      walk_at "rd"
      exact natIdx (.of (sm2 _ _ hl)) (O.all w hw) (q2 _ (Same.refl _))
    walk_at "rd"
    refine ⟨Nat.le_of_ble_eq_true rfl, Rd.new fun D H2 nD gD s2 => ?_⟩
    have s02 := s1.trans s2
    have gB2 := s2 _ _ gB
    walk_at "rd"
    refine Rd.forS ?_
    walk_at "rd"
    refine Rd.slL (.of (s02 _ _ hA)) (Rd.new fun e H3 ne3 ge s3 => ?_)
    have ge : H3 e = some (.lst [.ref j, .ref p]) := ge
    have s03 := s02.trans s3
    have gB3 := s3 _ _ gB2
    have eD : e ≠ D := (ne_of_none gD ne3).symm
    walk_at "rd"
    refine ⟨⟨_, .of ge⟩, for_list (K := K) (a := e) (xs := [.ref j, .ref p]) (fun i σ H' => ∃ (ps : List Addr) (o5 : Option V), σ = [some (.ref a), some (.ref l), some (.int (n : Nat)), some (.ref B), some (.ref D), o5, none, none] ∧ (∀ c, c ≠ D → ∀ u, H3 c = some u → H' c = some u) ∧ H' D = some (.lst (ps.map V.ref)) ∧ ps.length = i ∧ (∀ r, ps[0]? = some r → r ≠ D ∧ TblL H' r n (Ms.nm (Ms.atF xs) (xs.idxOf ·) J)) ∧ (∀ r, ps[1]? = some r → r ≠ D ∧ TblL H' r n (Ms.nm (Ms.atF xs) (xs.idxOf ·) M))) ⟨[], _, rfl, fun _ _ _ e => e, s3 _ _ gD, rfl, fun _ h => by simp at h, fun _ h => by simp at h⟩ (fun i σ H' _ ⟨_, _, _, f, _⟩ => .of (f _ eD _ ge)) ?_ ?_⟩
    · rintro i x _ H4 hx ⟨ps, o5, rfl, f4, gD4, pl, h0, h1⟩
      have hlD : l ≠ D := ne_of_none (s1 _ _ hl) nD
      have gl4 := f4 _ hlD _ (s03 _ _ hl)
      have hBD : B ≠ D := ne_of_none gB nD
      have gB4 := f4 _ hBD _ gB3
      have old : ∀ {c : Addr} {F : Nat → Nat → Nat}, TblL H c n F → TblL H4 c n F := by
        intro c F h
        obtain ⟨rs, g1, g2, g3⟩ := h
        exact ⟨rs, f4 _ (ne_of_none (s1 _ _ g1) nD) _ (s03 _ _ g1), g2, fun i r e => f4 _ (ne_of_none (s1 _ _ (g3 i r e)) nD) _ (s03 _ _ (g3 i r e))⟩
      obtain ⟨q, F, rfl, hF, Fl, io⟩ : ∃ (q : Addr) (F : Nat → Nat → Nat), x = .ref q ∧ TblL H4 q n F ∧ (∀ a b, a < n → b < n → F a b < n) ∧ ((i = 0 ∧ F = J) ∨ (i = 1 ∧ F = M)) := by
        match i, hx with
        | 0, hx => exact ⟨j, J, (Option.some.inj hx).symm, old hJ, R.jn, .inl ⟨rfl, rfl⟩⟩
        | 1, hx => exact ⟨p, M, (Option.some.inj hx).symm, old hM, R.mn, .inr ⟨rfl, rfl⟩⟩
        | i + 2, hx => simp at hx
      walk_at "rd"
      refine Rd.tyL (.of gD4) ?_
      walk_at "rd"
      refine ⟨by omega, by omega, ?_⟩
      refine lcTbl (n := n) walk_range (fun _ _ => trivial) HO.lst (Ms.nm (Ms.atF xs) (xs.idxOf ·) F) n (by omega) (fun i x Hc _ Q4 P5 hi sm y q => ?_) fun T rs HT nT sT hT hRT => ?_
      · obtain ⟨rfl, hx⟩ := y
        obtain rfl := rg0 hx
        walk_at "rd"
        refine ⟨rfl, ?_⟩
        walk_at "rd"
        refine ⟨by omega, by omega, ?_⟩
        refine lcNums (n := n) walk_range (fun _ _ => trivial) (Ms.nm (Ms.atF xs) (xs.idxOf ·) F i) (by omega) (fun w x Hd _ Q6 P7 hw sm2 y q2 => ?_) fun D2 H8 nD2 s8 hD2 => q D2 H8 s8 nD2 hD2
        obtain ⟨rfl, hx⟩ := y
        obtain rfl := rg0 hx
        have s12 := sm.trans sm2
        walk_at "rd"
        refine ⟨rfl, ?_⟩
        walk_at "rd"
        refine rowL (.of (s12 _ _ gB4)) hi ?_
        refine (hF.same s12).one (Ms.ord_q O i hi) fun r hr => ?_
        walk_at "rd"
        refine rowL (.of (s12 _ _ gB4)) hw ?_
        refine rowL hr (Ms.ord_q O w hw) ?_
        refine natIx O (.of (s12 _ _ gl4)) (Fl _ _ (Ms.ord_q O i hi) (Ms.ord_q O w hw)) ?_
        exact q2 _ (Same.refl _)
      walk_at "rd"
      refine Rd.app (sT _ _ gD4) (by rw [List.length_map, sizeLine_eq]; have := (List.getElem?_eq_some_iff.mp hx).1; simp only [List.length_cons, List.length_nil] at this; omega) fun H5 g5 off5 => ?_
      have TD : T ≠ D := (ne_of_none gD4 nT).symm
      have tT : TblL H5 T n (Ms.nm (Ms.atF xs) (xs.idxOf ·) F) := tbl_refs (sT _ _ gD4) (by omega) TD off5 (hRT.lists hT)
      walk_at "rd"
      have keep : ∀ {r : Addr} {G : Nat → Nat → Nat}, r ≠ D ∧ TblL H4 r n G → r ≠ D ∧ TblL H5 r n G := fun h => ⟨h.1, tbl_refs (sT _ _ gD4) (by omega) h.1 off5 (h.2.same sT)⟩
      refine ⟨ps ++ [T], _, rfl, fun c nc u e => by rw [off5 c nc]; exact sT _ _ (f4 c nc u e), by rw [g5, List.map_append]; rfl, by rw [List.length_append, pl]; rfl, fun r hr => ?_, fun r hr => ?_⟩
      · rcases io with ⟨rfl, rfl⟩ | ⟨rfl, rfl⟩
        · rw [List.eq_nil_of_length_eq_zero pl] at hr
          cases (Option.some.inj hr)
          exact ⟨TD, tT⟩
        · rw [List.getElem?_append_left (by omega)] at hr
          exact keep (h0 r hr)
      · rcases io with ⟨rfl, rfl⟩ | ⟨rfl, rfl⟩
        · rw [List.eq_nil_of_length_eq_zero pl] at hr
          simp at hr
        · rw [List.getElem?_append_right (by omega), pl] at hr
          cases (Option.some.inj hr)
          exact ⟨TD, tT⟩
    · rintro _ H4 ⟨ps, o5, rfl, f4, gD4, pl, h0, h1⟩
      have pl : ps.length = 2 := pl
      obtain ⟨u, v, rfl⟩ : ∃ u v, ps = [u, v] := by
        match ps, pl with
        | [u, v], _ => exact ⟨u, v, rfl⟩
      have hA4 := f4 _ (ne_of_none (s1 _ _ hA) nD) _ (s03 _ _ hA)
      have gl4 := f4 _ (ne_of_none (s1 _ _ hl) nD) _ (s03 _ _ hl)
      walk_at "rd"
      refine told0 (k := 2) hA4 rfl ?_
      refine natIx O (.of gl4) R.zn ?_
      walk_at "rd"
      refine told0 (k := 3) hA4 rfl ?_
      refine natIx O (.of gl4) R.on ?_
      walk_at "rd"
      refine ⟨Nat.le_of_ble_eq_true rfl, Rd.new fun w H5 nw gw s5 => ?_⟩
      refine Rd.cat (s5 _ _ gD4) gw (by rw [sizeLine_eq]; exact Nat.le_of_ble_eq_true rfl) (Rd.new fun d H6 nd gd s6 => ?_)
      have s46 := s5.trans s6
      refine k d H6 ⟨u, v, gd, (h0 u rfl).2.same s46, (h1 v rfl).2.same s46⟩ fun c x e => s46 _ _ (f4 c (ne_of_none (s1 _ _ e) nD) _ (s03 _ _ e))

end
end W

namespace W
open PySem PySem.Spec PyProof.Rows L2
section
variable {P : Program} {w : World} {K : PySem.W.Frag} {mg : Str → Option Value} {base : Heap}
open Mr (Rk joined joined_lt metF leftF rightF topF)
/-! ### reckonings as lists: all kinds, the one above all -/
def chn3 : List (List Nat) := [[0, 0, 0], [0, 0, 1], [0, 1, 2]]
theorem chn3_ok : Rk 3 Mr.mx (Mr.tabF chn3) 0 2 := Mr.rk_of (by decide +kernel)
theorem tape_back {H H1 H2 : Hp} {t : Addr} (s : Same H H1) (b : Rd.But t H1 H2) : Rd.But t H H2 := fun c u nc e => b c u nc (s _ _ e)
theorem ok_l_made (T : Txt K mg) : FnOk P w K mg base CX0 3 T.f_l_made T.fd_l_made ["_law_hand_here"] (sp_l_made K) := by
  refine T.F_l_made.ok sc_l_made (fun vs H Q E h => ?_) (fun cdv A outer s H vs Q E hr h => ?_)
  · obtain ⟨t, c, rfl, _⟩ := h
    rfl
  · obtain ⟨t, c, rfl, hT, k⟩ := h
    refine ⟨_, (pss_cons (ps_set (i := 1) sc_l_made.nd rfl (.inl rfl) (pe_call (ok_l_draw T) (hr.mono (by decide)) rfl T.g_l_draw T.F_l_draw.kp T.b_l_draw .nil pass0 (pa_cons (pv 0) (pa_cons pe_int pa_nil))))
  (pss_cons (ps_if (pt_cmpR op_eq (pv 1) pe_int (nomark _))
  (pss_one (ps_ret (pe_call (ok_l_chain T) (hr.mono (by decide)) rfl T.g_l_chain T.F_l_chain.kp T.b_l_chain .nil pass0 (pa_cons (pe_lst (pa_cons (pe_lst (pa_cons pe_int (pa_cons pe_int pa_nil))) (pa_cons (pe_lst (pa_cons pe_int (pa_cons pe_int pa_nil))) pa_nil))) pa_nil))))
  pss_nil)
  (pss_cons (ps_if (pt_cmpR op_lt (pv 1) pe_int (nomark _))
  (pss_cons (ps_set (i := 2) sc_l_made.nd rfl (.inl rfl) (pe_call (ok_l_chain T) (hr.mono (by decide)) rfl T.g_l_chain T.F_l_chain.kp T.b_l_chain .nil pass0 (pa_cons (pe_call (ok_l_products T) (hr.mono (by decide)) rfl T.g_l_products T.F_l_products.kp T.b_l_products .nil pass0 (pa_cons (pv 0) pa_nil)) pa_nil)))
  (pss_cons (ps_if (pt_cmpR op_eq (pv 1) pe_int (nomark _))
  (pss_one (ps_ret (pe_call (ok_l_renamed T) (hr.mono (by decide)) rfl T.g_l_renamed T.F_l_renamed.kp T.b_l_renamed .nil pass0 (pa_cons (pv 2) (pa_cons (pe_call (ok_l_order T) (hr.mono (by decide)) rfl T.g_l_order T.F_l_order.kp T.b_l_order .nil pass0 (pa_cons (pv 0) (pa_cons (pe_callB (id := "len") (r := Rd.nLen K) Rd.c_len (by rfl) T.n_len (by decide +kernel) (pa_cons (pe_ix (r := rIxL K) ix_list (pv 2) pe_int (fun _ _ => rfl)) pa_nil)) pa_nil))) pa_nil)))))
  pss_nil)
  (pss_one (ps_ret (pv 2)))))
  pss_nil)
  (pss_cons (ps_if (pt_cmpR op_eq (pv 1) pe_int (nomark _))
  (pss_cons (ps_set (i := 3) sc_l_made.nd rfl (.inl rfl) (pe_call (ok_l_chain T) (hr.mono (by decide)) rfl T.g_l_chain T.F_l_chain.kp T.b_l_chain .nil pass0 (pa_cons (pe_ix (r := rIxL K) ix_list (pe_lst (pa_cons (pe_lst (pa_cons (pe_lst (pa_cons pe_int (pa_cons pe_int pa_nil))) (pa_cons (pe_lst (pa_cons pe_int (pa_cons pe_int pa_nil))) pa_nil))) (pa_cons (pe_lst (pa_cons (pe_lst (pa_cons pe_int (pa_cons pe_int (pa_cons pe_int pa_nil)))) (pa_cons (pe_lst (pa_cons pe_int (pa_cons pe_int (pa_cons pe_int pa_nil)))) (pa_cons (pe_lst (pa_cons pe_int (pa_cons pe_int (pa_cons pe_int pa_nil)))) pa_nil)))) pa_nil))) (pe_call (ok_l_draw T) (hr.mono (by decide)) rfl T.g_l_draw T.F_l_draw.kp T.b_l_draw .nil pass0 (pa_cons (pv 0) (pa_cons pe_int pa_nil))) (fun _ _ => rfl)) pa_nil)))
  (pss_one (ps_ret (pe_call (ok_l_beside T) (hr.mono (by decide)) rfl T.g_l_beside T.F_l_beside.kp T.b_l_beside .nil pass0 (pa_cons (pv 3) (pa_cons (pe_call (ok_l_chain T) (hr.mono (by decide)) rfl T.g_l_chain T.F_l_chain.kp T.b_l_chain .nil pass0 (pa_cons (pe_call (ok_l_products T) (hr.mono (by decide)) rfl T.g_l_products T.F_l_products.kp T.b_l_products .nil pass0 (pa_cons (pv 0) pa_nil)) pa_nil)) pa_nil))))))
  pss_nil)
  (pss_cons (ps_asg (pe_call (ok_l_monoid T) (hr.mono (by decide)) rfl T.g_l_monoid T.F_l_monoid.kp T.b_l_monoid .nil pass0 (pa_cons (pv 0) pa_nil)) (pg_tup rfl (pgs_cons (pg_name (i := 4) sc_l_made.nd rfl (.inl rfl)) (pgs_cons (pg_name (i := 5) sc_l_made.nd rfl (.inl rfl)) pgs_nil))))
  (pss_cons (ps_set (i := 2) sc_l_made.nd rfl (.inl rfl) (pe_call (ok_l_lots T) (hr.mono (by decide)) rfl T.g_l_lots T.F_l_lots.kp T.b_l_lots .nil pass0 (pa_cons (pv 4) (pa_cons (pv 5) pa_nil))))
  (pss_cons (ps_if (pt_cmpR op_eq (pv 1) pe_int (nomark _))
  (pss_one (ps_ret (pe_call (ok_l_turned T) (hr.mono (by decide)) rfl T.g_l_turned T.F_l_turned.kp T.b_l_turned .nil pass0 (pa_cons (pv 2) pa_nil))))
  pss_nil)
  (pss_cons (ps_if (pt_cmpR op_eq (pv 1) pe_int (nomark _))
  (pss_one (ps_ret (pe_call (ok_l_renamed T) (hr.mono (by decide)) rfl T.g_l_renamed T.F_l_renamed.kp T.b_l_renamed .nil pass0 (pa_cons (pv 2) (pa_cons (pe_call (ok_l_order T) (hr.mono (by decide)) rfl T.g_l_order T.F_l_order.kp T.b_l_order .nil pass0 (pa_cons (pv 0) (pa_cons (pe_callB (id := "len") (r := Rd.nLen K) Rd.c_len (by rfl) T.n_len (by decide +kernel) (pa_cons (pe_ix (r := rIxL K) ix_list (pv 2) pe_int (fun _ _ => rfl)) pa_nil)) pa_nil))) pa_nil)))))
  pss_nil)
  (pss_cons (ps_if (pt_cmpR op_eq (pv 1) pe_int (nomark _))
  (pss_one (ps_ret (pe_call (ok_l_beside T) (hr.mono (by decide)) rfl T.g_l_beside T.F_l_beside.kp T.b_l_beside .nil pass0 (pa_cons (pe_call (ok_l_chain T) (hr.mono (by decide)) rfl T.g_l_chain T.F_l_chain.kp T.b_l_chain .nil pass0 (pa_cons (pe_lst (pa_cons (pe_lst (pa_cons pe_int (pa_cons pe_int pa_nil))) (pa_cons (pe_lst (pa_cons pe_int (pa_cons pe_int pa_nil))) pa_nil))) pa_nil)) (pa_cons (pv 2) pa_nil)))))
  pss_nil)
  (pss_one (ps_ret (pv 2)))))))))))), ?_⟩
    walk_at "rd"
    refine ⟨t, c, 9, rfl, hT, by decide, by decide, fun r H1 r0 r9 hT1 b1 => ?_⟩
    walk_at "rd"
    by_cases e0 : r = 0
    · refine Rd.yes e0 ?_
      with_reducible refine Rd.ret ?_
      with_reducible refine Rd.call ?_
      with_reducible refine Rd.cons ?_
      refine litT Mr.yes2 (by decide) (by decide) fun D H2 tD s2 => ?_
      with_reducible refine Rd.nil ?_
      exact ⟨D, 2, _, rfl, tD, by decide, by decide, fun d H3 td s3 => k d 2 0 1 _ _ H3 td Mr.yes_ok (hT1.same (s2.trans s3)) (b1.same (s2.trans s3))⟩
    refine Rd.no e0 ?_
    walk_at "rd"
    by_cases e1 : r < 4
    · refine Rd.yes e1 ?_
      walk_at "rd"
      refine ⟨t, c, rfl, hT1, fun D n M H2 tD RM n2 n5 hT2 b2 => ?_⟩
      walk_at "rd"
      refine ⟨D, n, M, rfl, tD, by omega, by omega, fun d H3 td s3 => ?_⟩
      have hT3 := hT2.same s3
      have b03 := (b1.trans b2).same s3
      walk_at "rd"
      by_cases e2 : r = 3
      · refine Rd.yes e2 ?_
        obtain ⟨j, p, hd, hj, hp⟩ := id td
        walk_at "rd"
        refine told0 (k := 0) hd rfl ?_
        walk_at "rd"
        refine (hj.any (K := K)).len ?_
        walk_at "rd"
        refine ⟨t, c, n, rfl, hT3, RM.n16, fun l xs H4 hl O hT4 b4 => ?_⟩
        walk_at "rd"
        exact ⟨d, l, n, _, _, xs, _, _, rfl, td.tape hT3 b4, RM, hl, O, fun e H5 te s5 => k e n _ _ _ _ H5 te (Ms.renamed RM O) (hT4.same s5) ((b03.trans b4).same s5)⟩
      · refine Rd.no e2 ?_
        walk_at "rd"
        exact k d n _ _ _ _ H3 td RM hT3 b03
    refine Rd.no e1 ?_
    walk_at "rd"
    by_cases e4 : r = 4
    · refine Rd.yes e4 ?_
      with_reducible refine Rd.seq ?_
      with_reducible refine Rd.asg ?_
      with_reducible refine Rd.call ?_
      with_reducible refine Rd.cons ?_
      with_reducible refine Rd.op ?_
      with_reducible refine Rd.lst ?_
      with_reducible refine Rd.cons ?_
      refine litT Mr.yes2 (by decide) (by decide) fun D1 H2 t1 s2 => ?_
      with_reducible refine Rd.cons ?_
      refine litT chn3 (by decide) (by decide) fun D2 H3 t2 s3 => ?_
      with_reducible refine Rd.nil ?_
      refine ⟨by rw [sizeLine_eq]; exact Nat.le_of_ble_eq_true rfl, Rd.new fun L H4 nL gL s4 => ?_⟩
      have s24 := (s2.trans s3).trans s4
      have hT4 := hT1.same s24
      walk_at "rd"
      refine ⟨t, c, 2, rfl, hT4, by decide, by decide, fun x H5 x0 x2 hT5 b5 => ?_⟩
      obtain ⟨x, rfl⟩ : ∃ a : Nat, x = (a : Int) := ⟨x.toNat, by omega⟩
      have Lt : L ≠ t := by
        obtain ⟨ns, x, y, z, u, _, g, _⟩ := hT4
        exact ne_of gL g fun e => nomatch e
      obtain ⟨D, n, M, hv, tD, n2, n3, RM⟩ : ∃ (D : Addr) (n : Nat) (M : Nat → Nat → Nat), [V.ref D1, .ref D2][x]? = some (.ref D) ∧ TblL H4 D n M ∧ 2 ≤ n ∧ n ≤ 3 ∧ Rk n Mr.mx M 0 (n - 1) := by
        rcases (show x = 0 ∨ x = 1 by omega) with rfl | rfl
        · exact ⟨D1, 2, _, rfl, t1.same (s3.trans s4), by decide, by decide, Mr.yes_ok⟩
        · exact ⟨D2, 3, _, rfl, t2.same s4, by decide, by decide, chn3_ok⟩
      refine Rd.ixL (.of (b5 _ _ Lt gL)) (atI_nat hv) ?_
      walk_at "rd"
      refine ⟨D, n, M, rfl, tD.tape hT4 b5, by omega, by omega, fun d H6 td s6 => ?_⟩
      have hT6 := hT5.same s6
      walk_at "rd"
      refine ⟨t, c, rfl, hT6, fun D' n' M' H7 tD' RM' n2' n5' hT7 b7 => ?_⟩
      have td7 := td.tape hT6 b7
      walk_at "rd"
      refine ⟨D', n', M', rfl, tD', by omega, by omega, fun d' H8 td' s8 => ?_⟩
      have nm : n * n' ≤ 16 := Nat.le_trans (Nat.mul_le_mul n3 n5') (by decide)
      walk_at "rd"
      refine ⟨d, d', n, n', _, _, _, _, _, _, _, _, rfl, td7.same s8, td', nm, by omega, by omega, fun u H9 tu s9 => ?_⟩
      refine k u _ _ _ _ _ H9 tu (RM.beside RM' nm) (hT7.same (s8.trans s9)) fun c x nc e => ?_
      exact s9 _ _ (s8 _ _ (b7 _ _ nc (s6 _ _ (b5 _ _ nc (s24 _ _ (b1 _ _ nc e))))))
    refine Rd.no e4 ?_
    walk_at "rd"
    refine ⟨t, c, rfl, hT1, fun q D m o P H2 hq hD L hT2 b2 => ?_⟩
    refine Rd.tupT (.of hq) rfl ?_
    have p8 : 2 ^ m ≤ 2 ^ 3 := Nat.pow_le_pow_right (by decide) L.m3
    walk_at "rd"
    refine ⟨D, m, o, P, rfl, hD, L, fun d H3 td s3 => ?_⟩
    have hT3 := hT2.same s3
    have b03 := (b1.trans b2).same s3
    obtain ⟨j, p, hd, hj, hp⟩ := id td
    walk_at "rd"
    by_cases e5 : r = 5
    · refine Rd.yes e5 ?_
      walk_at "rd"
      exact ⟨d, _, _, _, _, _, rfl, td, L.rk.n16, fun u H4 tu s4 => k u _ _ _ _ _ H4 tu L.rk.turn (hT3.same s4) (b03.same s4)⟩
    refine Rd.no e5 ?_
    walk_at "rd"
    by_cases e6 : r = 6
    · refine Rd.yes e6 ?_
      walk_at "rd"
      refine told0 (k := 0) hd rfl ?_
      walk_at "rd"
      refine (hj.any (K := K)).len ?_
      walk_at "rd"
      refine ⟨t, c, _, rfl, hT3, L.rk.n16, fun l xs H4 hl O hT4 b4 => ?_⟩
      walk_at "rd"
      exact ⟨d, l, _, _, _, xs, _, _, rfl, td.tape hT3 b4, L.rk, hl, O, fun e H5 te s5 => k e _ _ _ _ _ H5 te (Ms.renamed L.rk O) (hT4.same s5) ((b03.trans b4).same s5)⟩
    refine Rd.no e6 ?_
    walk_at "rd"
    by_cases e7 : r = 7
    · refine Rd.yes e7 ?_
      with_reducible refine Rd.ret ?_
      with_reducible refine Rd.call ?_
      with_reducible refine Rd.cons ?_
      with_reducible refine Rd.call ?_
      with_reducible refine Rd.cons ?_
      refine litT Mr.yes2 (by decide) (by decide) fun D1 H4 t1 s4 => ?_
      with_reducible refine Rd.nil ?_
      refine ⟨D1, 2, _, rfl, t1, by decide, by decide, fun d1 H5 td1 s5 => ?_⟩
      walk_at "rd"
      have nm : 2 * 2 ^ m ≤ 16 := by omega
      refine ⟨d1, d, 2, 2 ^ m, _, _, _, _, _, _, _, _, rfl, td1, (td.same s4).same s5, nm, by have := L.rk.n2; omega, by omega, fun u H6 tu s6 => ?_⟩
      exact k u _ _ _ _ _ H6 tu (Mr.yes_ok.beside L.rk nm) (hT3.same ((s4.trans s5).trans s6)) (b03.same ((s4.trans s5).trans s6))
    refine Rd.no e7 ?_
    walk_at "rd"
    exact k d _ _ _ _ _ H3 td L.rk hT3 b03

end
end W

namespace W
open PySem PySem.Spec PyProof.Rows L2
section
variable {P : Program} {w : World} {K : PySem.W.Frag} {mg : Str → Option Value} {base : Heap}
/-! ### words and watches drawn, the second way -/
theorem but_off {t l : Addr} {H H1 G : Hp} (b : Rd.But t H H1) (n : H l = none) (off : ∀ q, q ≠ l → G q = H1 q) : Rd.But t H G := fun q o h e => by rw [off q (ne_of_none e n)]; exact b q o h e
/-- a comprehension that draws -/
def LcStT (t c D : Addr) (H1 : Hp) (R : Nat → List V → Hp → Prop) : Nat → Hp → Prop := fun i H => ∃ acc, H D = some (.lst acc) ∧ Tape H t c ∧ Rd.But t H1 H ∧ R i acc H
def LcPuT (t c D : Addr) (H1 : Hp) (R : Nat → List V → Hp → Prop) (i : Nat) (y : V) (H4 : Hp) : Prop := ∃ acc, H4 D = some (.lst acc) ∧ acc.length < sizeLine ∧ LcStT t c D H1 R (i + 1) (upd H4 D (.lst (acc ++ [y])))
theorem lcPuT {t c D : Addr} {H1 H4 : Hp} {R : Nat → List V → Hp → Prop} {i : Nat} {y : V} {acc : List V} (hD : H4 D = some (.lst acc)) (nD : H1 D = none) (tp1 : Tape H1 t c) (tp : Tape H4 t c) (b : Rd.But t H1 H4) (hz : acc.length < sizeLine) (r : ∀ G : Hp, G D = some (.lst (acc ++ [y])) → (∀ b, b ≠ D → G b = H4 b) → R (i + 1) (acc ++ [y]) G) : LcPuT t c D H1 R i y H4 :=
  have ⟨dt, dc⟩ := tp1.new nD
  ⟨acc, hD, hz, acc ++ [y], upd_same, tp.off dt dc fun q h => upd_ne h, but_off b nD fun q h => upd_ne h, r _ upd_same fun b hb => upd_ne hb⟩
theorem lcT {J : It} {n : Nat} {G : Hp → Prop} {Y : Nat → Hp → V → Hp → Prop} (w : Walk J n G Y) {g : TG} {tt : TT} {te : TE} {vs : List Nat} {σ : L2.St} {H1 : Hp} {Q : VK} {t c : Addr} (tp : Tape H1 t c) (hG : ∀ H, Rd.But t H1 H → G H) (R : Addr → Nat → List V → Hp → Prop)
    (r0 : ∀ (D : Addr) (G : Hp), H1 D = none → G D = some (.lst []) → Same H1 G → R D 0 [] G)
    (hs : ∀ (D : Addr) i x H H' acc, H1 D = none → i < n → H D = some (.lst acc) → Tape H t c → Rd.But t H1 H → R D i acc H → Y i H x H' → g x (wipe σ vs) H' fun σ2 H2 => wipe σ2 vs = wipe σ vs ∧ tt σ2 H2 fun b H3 =>
      if b = true then te σ2 H3 fun y H4 => LcPuT t c D H1 (R D) i y H4 else LcStT t c D H1 (R D) (i + 1) H3)
    (hd : ∀ (D : Addr) acc H, H1 D = none → H D = some (.lst acc) → Tape H t c → Rd.But t H1 H → R D n acc H → Q (.ref D) H) : Rd.Lc J g tt te vs σ H1 Q := fun D nD =>
  lc_it w (LcStT t c D H1 (R D)) ⟨[], upd_same, tp.same (Rd.same_upd nD), Rd.But.of (Rd.same_upd nD), r0 D _ nD upd_same (Rd.same_upd nD)⟩ (fun i H hi ⟨acc, h1, h2, h3, h4⟩ => hG H h3)
    (fun i x H H' hi ⟨acc, h1, h2, h3, h4⟩ y => hs D i x H H' acc nD hi h1 h2 h3 h4 y) (fun H ⟨acc, h1, h2, h3, h4⟩ => hd D acc H nD h1 h2 h3 h4)

end
end W

namespace W
open PySem PySem.Spec PyProof.Rows L2
section
variable {P : Program} {w : World} {K : PySem.W.Frag} {mg : Str → Option Value} {base : Heap}
open Mr (Rk joined joined_lt metF leftF rightF topF)
/-! ### worths of any kind, asked of the three kinds of reckonings -/
def okL : Rx.Kd → Bool
  | .non => true
  | .int i => decide (0 ≤ i)
  | _ => false
theorem okL_int {i : Int} : okL (.int i) = decide (0 ≤ i) := rfl
def okR (n : Nat) : Rx.Kd → Bool
  | .int i => decide (0 ≤ i) && decide (i < n)
  | _ => false
theorem okR_int {n : Nat} {i : Int} : okR n (.int i) = (decide (0 ≤ i) && decide (i < n)) := rfl
theorem RkAt.tape {C : Addr} {H H' : Hp} {t c b n : Nat} {J M : Nat → Nat → Nat} {z o : Nat} (ht : Tape H t c) (off : Rd.But t H H') (h : RkAt K C H b n J M z o) : RkAt K C H' b n J M z o := by
  obtain ⟨dx, j, p, m, l, r, h0, h1, h2, h3, h4, h5⟩ := h
  have nb : b ≠ t := by
    obtain ⟨ns, x, y, z, u, _, g, _⟩ := ht
    exact ne_of h0 g (fun e => nomatch e)
  exact ⟨dx, j, p, m, l, r, off _ _ nb h0, h1.tape ht off, h2.tape ht off, h3.tape ht off, h4.tape ht off, h5.tape ht off⟩
def sp_Reckoning_is_worth (K : PySem.W.Frag) (C : Addr) : Sp := fun vs H Q _ => ∃ (b n z o : Nat) (x : V) (k : Rx.Kd) (J M : Nat → Nat → Nat), vs = [.ref b, x] ∧ RkAt K C H b n J M z o ∧ IsX K H x k ∧ Q (.bl (okR n k)) H
def sp_Lengths_is_worth (K : PySem.W.Frag) (C : Addr) : Sp := fun vs H Q _ => ∃ (b : Addr) (x : V) (k : Rx.Kd), vs = [.ref b, x] ∧ IsX K H x k ∧ Q (.bl (okL k)) H
/-- what a worth is: a thing of a kind, or a ratio -/
inductive Wk where
  | kd (k : Rx.Kd)
  | rat
def Wk.num : Wk → Bool
  | .kd k => k.isNum
  | .rat => true
def WkI (C t : Addr) (H : Hp) (x : V) : Wk → Prop
  | .kd k => Rx.Is H x k ∧ Rx.Off t x
  | .rat => ∃ (b : Addr) (r : Rat), x = .ref b ∧ RatAt C H b r
theorem WkI.same {C t : Addr} {H H' : Hp} {x : V} {w : Wk} (s : Same H H') (h : WkI C t H x w) : WkI C t H' x w := by
  cases w with
  | kd k => exact ⟨h.1.same s, h.2⟩
  | rat => obtain ⟨b, r, e, h⟩ := h; exact ⟨b, r, e, h.same s⟩
theorem WkI.tape {C t c : Addr} {H H' : Hp} {x : V} {w : Wk} (ht : Tape H t c) (off : Rd.But t H H') (h : WkI C t H x w) : WkI C t H' x w := by
  cases w with
  | kd k => exact ⟨h.1.but off h.2, h.2⟩
  | rat => obtain ⟨b, r, e, h⟩ := h; exact ⟨b, r, e, h.tape ht off⟩
/-- the kind that is_integer sees -/
def Wk.kind : Wk → Rx.Kd
  | .kd k => k
  | .rat => .dct
theorem WkI.isX (T : Txt K mg) {t : Addr} {H : Hp} {x : V} {w : Wk} (h : WkI T.C_Ratio t H x w) : IsX K H x w.kind := by
  cases w with
  | kd k => exact .is h.1
  | rat => obtain ⟨b, r, rfl, dx, e⟩ := h; exact .ins e T.cl_Ratio T.ty_Ratio T.ki_Ratio T.kb_Ratio
theorem isNum_int {H : Hp} {x : V} {k : Rx.Kd} (h : Rx.Is H x k) (e : k.isNum = true) : ∃ i : Int, x = .int i ∧ k = .int i := by
  cases h <;> first | exact ⟨_, rfl, rfl⟩ | cases e
theorem WkI.numB (T : Txt K mg) {t : Addr} {H : Hp} {x : V} {w : Wk} (h : WkI T.C_Ratio t H x w) : NumB K T.C_Ratio H x w.num := by
  cases w with
  | rat => obtain ⟨b, r, rfl, h⟩ := h; exact .inl ⟨rfl, r, h.num⟩
  | kd k =>
    cases e : k.isNum with
    | true =>
      obtain ⟨i, rfl, rfl⟩ := isNum_int h.1 e
      exact .inl ⟨rfl, _, NumAt.int i⟩
    | false => exact .inr ⟨e, .is h.1 e⟩
/-- a world: lengths, numbers, a told reckoning of n worths -/
inductive Wd where
  | len
  | num
  | rk (n : Nat) (J M : Nat → Nat → Nat) (z o : Nat)
def okW : Wd → Wk → Bool
  | .len, w => okL w.kind
  | .num, w => w.num
  | .rk n _ _ _ _, w => okR n w.kind
/-- the reckoning of a world -/
def ReAt (K : PySem.W.Frag) (CK CL CN CR : Addr) (H : Hp) (b : Addr) : Wd → Prop
  | .len => LenAt CL H b
  | .num => NumsAt CN CR H b
  | .rk n J M z o => RkAt K CK H b n J M z o
theorem ReAt.same {CK CL CN CR : Addr} {H H' : Hp} {b : Addr} {wd : Wd} (s : Same H H') (h : ReAt K CK CL CN CR H b wd) : ReAt K CK CL CN CR H' b wd := by
  cases wd with
  | len => exact LenAt.same h s
  | num => exact NumsAt.same s h
  | rk n J M z o => exact RkAt.same h s
theorem ReAt.tape {CK CL CN CR t c : Addr} {H H' : Hp} {b : Addr} {wd : Wd} (ht : Tape H t c) (off : Rd.But t H H') (h : ReAt K CK CL CN CR H b wd) : ReAt K CK CL CN CR H' b wd := by
  cases wd with
  | len => exact LenAt.tape ht off h
  | num => exact NumsAt.tape ht off h
  | rk n J M z o => exact RkAt.tape ht off h
/-! ### rows and tables of any kind -/
inductive Rwk where
  | no
  | row (ws : List Wk)
inductive Tbk where
  | no
  | tup (rs : List Rwk)
def RwI (C t : Addr) (H : Hp) (x : V) : Rwk → Prop
  | .no => ∃ k : Rx.Kd, Rx.Is H x k ∧ Rx.Off t x ∧ k.isTup = false
  | .row ws => ∃ (a : Addr) (xs : List V), x = .ref a ∧ H a = some (.tup xs) ∧ Paired (WkI C t H) xs ws
def TbI (C t : Addr) (H : Hp) (x : V) : Tbk → Prop
  | .no => ∃ k : Rx.Kd, Rx.Is H x k ∧ Rx.Off t x ∧ k.isTup = false
  | .tup rs => ∃ (a : Addr) (xs : List V), x = .ref a ∧ H a = some (.tup xs) ∧ Paired (RwI C t H) xs rs
theorem paired_map {α : Type} {P P' : V → α → Prop} (f : ∀ x w, P x w → P' x w) : ∀ {xs : List V} {ws : List α}, Paired P xs ws → Paired P' xs ws
  | _, _, .nil => .nil
  | _, _, .cons h r => .cons (f _ _ h) (paired_map f r)
theorem RwI.same {C t : Addr} {H H' : Hp} {x : V} {w : Rwk} (s : Same H H') (h : RwI C t H x w) : RwI C t H' x w := by
  cases w with
  | no => obtain ⟨k, i, o, e⟩ := h; exact ⟨k, i.same s, o, e⟩
  | row ws => obtain ⟨a, xs, e, h, p⟩ := h; exact ⟨a, xs, e, s _ _ h, paired_map (fun _ _ h => h.same s) p⟩
theorem tup_tape {t c a : Addr} {xs : List V} {H H' : Hp} (ht : Tape H t c) (off : Rd.But t H H') (h : H a = some (.tup xs)) : H' a = some (.tup xs) := by
  obtain ⟨ns, x, y, z, u, _, g, _⟩ := ht
  exact off _ _ (ne_of h g (fun e => nomatch e)) h
theorem RwI.tape {C t c : Addr} {H H' : Hp} {x : V} {w : Rwk} (ht : Tape H t c) (off : Rd.But t H H') (h : RwI C t H x w) : RwI C t H' x w := by
  cases w with
  | no => obtain ⟨k, i, o, e⟩ := h; exact ⟨k, i.but off o, o, e⟩
  | row ws => obtain ⟨a, xs, e, h, p⟩ := h; exact ⟨a, xs, e, tup_tape ht off h, paired_map (fun _ _ h => h.tape ht off) p⟩
theorem TbI.same {C t : Addr} {H H' : Hp} {x : V} {w : Tbk} (s : Same H H') (h : TbI C t H x w) : TbI C t H' x w := by
  cases w with
  | no => obtain ⟨k, i, o, e⟩ := h; exact ⟨k, i.same s, o, e⟩
  | tup ws => obtain ⟨a, xs, e, h, p⟩ := h; exact ⟨a, xs, e, s _ _ h, paired_map (fun _ _ h => h.same s) p⟩
theorem TbI.tape {C t c : Addr} {H H' : Hp} {x : V} {w : Tbk} (ht : Tape H t c) (off : Rd.But t H H') (h : TbI C t H x w) : TbI C t H' x w := by
  cases w with
  | no => obtain ⟨k, i, o, e⟩ := h; exact ⟨k, i.but off o, o, e⟩
  | tup ws => obtain ⟨a, xs, e, h, p⟩ := h; exact ⟨a, xs, e, tup_tape ht off h, paired_map (fun _ _ h => h.tape ht off) p⟩
def Rwk.fits (wd : Wd) (n : Nat) : Rwk → Bool
  | .no => false
  | .row ws => decide (ws.length = n) && ws.all (okW wd)
def Tbk.fits (wd : Wd) (n : Nat) : Tbk → Bool
  | .no => false
  | .tup rs => decide (rs.length = n) && rs.all (Rwk.fits wd n)
theorem kd_tup {k : Rx.Kd} {H : Hp} {x : V} (h : Rx.Is H x k) (e : k.isTup = false) {Q : VK} (q : Q (.bl false) H) : rIsi K [x, .ty "tuple"] H Q := Rx.askTup h (by rw [e]; exact q)
theorem ok_Reckoning_is_worth (T : Txt K mg) : FnOk P w K mg base CX0 2 T.f_Reckoning_is_worth T.fd_Reckoning_is_worth ["self", "thing"] (sp_Reckoning_is_worth K T.C_Reckoning) := by
  refine T.F_Reckoning_is_worth.ok sc_Reckoning_is_worth (fun vs H Q E h => ?_) (fun cdv A outer s H vs Q E hr h => ?_)
  · obtain ⟨b, n, z, o, x, k, J, M, rfl, _⟩ := h
    rfl
  · obtain ⟨b, n, z, o, x, kd, J, M, rfl, hR, ix, k⟩ := h
    refine ⟨_, (pss_one (ps_ret (pe_and (pe_call (ok_is_integer T) (hr.mono (by decide)) rfl T.g_is_integer T.F_is_integer.kp T.b_is_integer .nil pass0 (pa_cons (pv 1) pa_nil)) (pe_one (pe_chain op_le op_lt pe_int (pv 1) (pe_callB (id := "len") (r := Rd.nLen K) Rd.c_len (by rfl) T.n_len (by decide +kernel) (pa_cons (pe_fld (pv 0) rfl) pa_nil))))))), ?_⟩
    obtain ⟨dx, j, p, m, l, r, h0, h1, h2, h3, h4, h5⟩ := id hR
    walk_at "rd"
    refine ⟨x, kd, rfl, ix, ?_⟩
    cases e : kd.isNum with
    | false =>
      walk_at "rd"
      rw [show okR n kd = false by cases kd <;> first | rfl | cases e] at k
      exact k
    | true =>
      obtain ⟨i, rfl, rfl⟩ : ∃ i : Int, x = .int i ∧ kd = .int i := by
        cases ix with
        | int i => exact ⟨i, rfl, rfl⟩
        | is h => exact isNum_int h e
        | ins => cases e
      walk_at "rd"
      rw [okR_int] at k
      by_cases c : 0 ≤ i
      · refine Rd.yes c ?_
        walk_at "rd"
        refine Rd.fld h0 T.cl_Reckoning T.na_Reckoning_joins rfl ?_
        walk_at "rd"
        refine h1.any.len ?_
        walk_at "rd"
        rw [decide_eq_true c, Bool.true_and] at k
        exact k
      · refine Rd.no c ?_
        walk_at "rd"
        rw [decide_eq_false c, Bool.false_and] at k
        exact k
theorem ok_Lengths_is_worth (T : Txt K mg) : FnOk P w K mg base CX0 2 T.f_Lengths_is_worth T.fd_Lengths_is_worth ["self", "thing"] (sp_Lengths_is_worth K T.C_Lengths) := by
  refine T.F_Lengths_is_worth.ok sc_Lengths_is_worth (fun vs H Q E h => ?_) (fun cdv A outer s H vs Q E hr h => ?_)
  · obtain ⟨b, x, k, rfl, _⟩ := h
    rfl
  · obtain ⟨b, x, kd, rfl, ix, k⟩ := h
    refine ⟨_, (pss_one (ps_ret (pe_or (pe_cmpR op_isN (pv 1) pe_non (nomark _)) (pe_one (pe_and (pe_call (ok_is_integer T) (hr.mono (by decide)) rfl T.g_is_integer T.F_is_integer.kp T.b_is_integer .nil pass0 (pa_cons (pv 1) pa_nil)) (pe_one (pe_cmpR op_ge (pv 1) pe_int (nomark _)))))))), ?_⟩
    walk_at "rd"
    refine ⟨rfl, ?_⟩
    by_cases c : x = .non
    · subst c
      rw [show okL kd = true by
        cases ix with
        | is h => cases h; rfl] at k
      walk_at "rd"
      refine Rd.yes rfl ?_
      exact k
    · rw [decide_eq_false c]
      walk_at "rd"
      refine ⟨x, kd, rfl, ix, ?_⟩
      cases e : kd.isNum with
      | false =>
        walk_at "rd"
        rw [show okL kd = false by
          cases kd <;> first | rfl | cases e | skip
          cases ix with
          | is h => cases h; exact absurd rfl c] at k
        exact k
      | true =>
        obtain ⟨i, rfl, rfl⟩ : ∃ i : Int, x = .int i ∧ kd = .int i := by
          cases ix with
          | int i => exact ⟨i, rfl, rfl⟩
          | is h => exact isNum_int h e
          | ins => cases e
        walk_at "rd"
        exact k

end
end W

namespace W
open PySem PySem.Spec PyProof.Rows L2
section
variable {P : Program} {w : World} {K : PySem.W.Frag} {mg : Str → Option Value} {base : Heap}
open Mr (Rk joined joined_lt metF leftF rightF topF)
/-! ### join and times of told reckonings and of lengths, handed anything -/
theorem okR_true {n : Nat} {k : Rx.Kd} {x : V} {H : Hp} (ix : Rx.Is H x k) (h : okR n k = true) : ∃ a : Nat, x = .int (a : Nat) ∧ a < n := by
  cases ix with
  | int i =>
    rw [okR_int, Bool.and_eq_true, decide_eq_true_iff, decide_eq_true_iff] at h
    exact ⟨i.toNat, by congr 1; omega, by omega⟩
  | _ => cases h
def Chk (CW : Addr) (H : Hp) (E : XK) (x y : V) (bx by_ : Bool) (k : Prop) : Prop := (bx = false → Rx.Raised CW x H E) ∧ (bx = true → by_ = false → Rx.Raised CW y H E) ∧ (bx = true → by_ = true → k)
def sp_Reckoning_check (K : PySem.W.Frag) (C CW : Addr) : Sp := fun vs H Q E => ∃ (b t n z o : Nat) (x y : V) (kx ky : Rx.Kd) (J M : Nat → Nat → Nat), vs = [.ref b, .ref t] ∧ RkAt K C H b n J M z o ∧ H t = some (.tup [x, y]) ∧ Rx.Is H x kx ∧ Rx.Is H y ky ∧ Chk CW H E x y (okR n kx) (okR n ky) (Q .non H)
/-- a method of two worths: f tells its value -/
def RkM (K : PySem.W.Frag) (C CW : Addr) (f : Nat → (Nat → Nat → Nat) → (Nat → Nat → Nat) → Nat → Nat → Nat → V) : Sp := fun vs H Q E => ∃ (b n z o : Nat) (x y : V) (kx ky : Rx.Kd) (J M : Nat → Nat → Nat), vs = [.ref b, x, y] ∧ RkAt K C H b n J M z o ∧ Rx.Is H x kx ∧ Rx.Is H y ky ∧
  Chk CW H E x y (okR n kx) (okR n ky) (∀ u w : Nat, x = .int (u : Nat) → y = .int (w : Nat) → u < n → w < n → ∀ H', Same H H' → Q (f n J M z u w) H')
theorem Chk.same {CW : Addr} {H G : Hp} {E : XK} {x y : V} {bx by_ : Bool} {k k' : Prop} (h : Chk CW H E x y bx by_ k) (s : Same H G) (kk : bx = true → by_ = true → k → k') : Chk CW G E x y bx by_ k' :=
  ⟨fun e => Rq.raised_same (h.1 e) s, fun e1 e2 => Rq.raised_same (h.2.1 e1 e2) s, fun e1 e2 => kk e1 e2 (h.2.2 e1 e2)⟩
def sp_Reckoning_join (K : PySem.W.Frag) (C CW : Addr) : Sp := RkM K C CW fun _ J _ _ u w => .int (J u w : Nat)
def sp_Reckoning_times (K : PySem.W.Frag) (C CW : Addr) : Sp := RkM K C CW fun _ _ M _ u w => .int (M u w : Nat)
theorem ok_Reckoning_check (T : Txt K mg) : FnOk P w K mg base (L2.CX P w) 4 T.f_Reckoning_check T.fd_Reckoning_check ["self", "worths"] (sp_Reckoning_check K T.C_Reckoning T.C_BadWorth) := by
  refine T.F_Reckoning_check.okX sc_Reckoning_check (fun vs H Q E h => ?_) (fun cdv A outer s H vs Q E hr h => ?_)
  · obtain ⟨b, t, n, z, o, x, y, kx, ky, J, M, rfl, _⟩ := h
    rfl
  · obtain ⟨b, t, n, z, o, x, y, kx, ky, J, M, rfl, hR, ht, ix, iy, k1, k2, k3⟩ := h
    refine ⟨_, (pss_one (ps_for (passes_of rfl) rfl (pi_tup (pv 1)) (pg_name (i := 2) sc_Reckoning_check.nd rfl (.inl rfl))
  (pss_one (ps_if (pt_not (pt_val (pe_meth (pv 0) T.cl_Reckoning T.h_Reckoning_is_worth (ok_Reckoning_is_worth T) (hr.mono (by decide)) T.b_Reckoning_is_worth .nil pass0 (pa_cons (pv 2) pa_nil))))
  (pss_one (Rx.ps_raise1 rfl T.X_BadWorth T.tI_WayError_init (ok_WayError_init T) (hr.mono (by decide)) T.b_WayError_init rfl T.c_BadWorth (takes_of rfl rfl rfl rfl) (pv 2)))
  pss_nil)))), ?_⟩
    obtain ⟨dx, j, p, m, l, r, h0, h1, h2, h3, h4, h5⟩ := id hR
    walk_at "rd"
    refine Rd.forS ?_
    walk_at "rd"
    refine ⟨⟨_, .of ht⟩, for_tup (K := K) (a := t) (xs := [x, y]) (fun i σ H' => ∃ (o3 : Option V), σ = [some (.ref b), some (.ref t), o3] ∧ H' = H ∧ (0 < i → okR n kx = true) ∧ (1 < i → okR n ky = true)) ⟨_, rfl, rfl, fun h => absurd h (Nat.lt_irrefl 0), fun h => by omega⟩ (fun i σ H' _ ⟨_, _, e, _⟩ => e ▸ .of ht) ?_ ?_⟩
    · rintro i v _ H1 hv ⟨o3, rfl, eH, e1, e2⟩
      obtain rfl : H = H1 := eH.symm
      walk_at "rd"
      refine Rd.meth h0 rfl ?_
      walk_at "rd"
      match i, hv with
      | 0, hv =>
        cases (Option.some.inj hv)
        refine ⟨b, n, z, o, x, kx, J, M, rfl, hR, .is ix, ?_⟩
        cases c : okR n kx with
        | false =>
          walk_at "rd"
          exact (k1 c).now (Same.refl _)
        | true =>
          walk_at "rd"
          exact ⟨_, rfl, rfl, fun _ => rfl, fun h => by omega⟩
      | 1, hv =>
        cases (Option.some.inj hv)
        refine ⟨b, n, z, o, y, ky, J, M, rfl, hR, .is iy, ?_⟩
        cases c : okR n ky with
        | false =>
          walk_at "rd"
          exact (k2 (e1 (by decide)) c).now (Same.refl _)
        | true =>
          walk_at "rd"
          exact ⟨_, rfl, rfl, fun _ => e1 (by decide), fun _ => rfl⟩
      | i + 2, hv => simp at hv
    · rintro _ H1 ⟨o3, rfl, eH, e1, e2⟩
      obtain rfl : H = H1 := eH.symm
      walk_at "rd"
      exact k3 (e1 (Nat.lt_of_lt_of_le Nat.zero_lt_two (Nat.le_refl _))) (e2 (Nat.lt_of_lt_of_le Nat.one_lt_two (Nat.le_refl _)))
theorem ok_Reckoning_join (T : Txt K mg) : FnOk P w K mg base (L2.CX P w) 5 T.f_Reckoning_join T.fd_Reckoning_join ["self", "a", "b"] (sp_Reckoning_join K T.C_Reckoning T.C_BadWorth) := by
  refine T.F_Reckoning_join.okX sc_Reckoning_join (fun vs H Q E h => ?_) (fun cdv A outer s H vs Q E hr h => ?_)
  · obtain ⟨b, n, z, o, x, y, kx, ky, J, M, rfl, _⟩ := h
    rfl
  · obtain ⟨b, n, z, o, x, y, kx, ky, J, M, rfl, hR, ix, iy, ck⟩ := h
    refine ⟨_, (pss_cons (ps_expr (Rq.pe_methS (pv 0) T.cl_Reckoning T.h_Reckoning_check (ok_Reckoning_check T) (hr.mono (by decide)) T.b_Reckoning_check (fun σ => passAt (takes_of rfl rfl rfl rfl) σ) (pa_cons (pe_tup (pa_cons (pv 1) (pa_cons (pv 2) pa_nil))) pa_nil)))
  (pss_one (ps_ret (pe_ix (r := rIxT K) ix_tup (pe_ix (r := rIxT K) ix_tup (pe_fld (pv 0) rfl) (pv 1) (fun _ _ => rfl)) (pv 2) (fun _ _ => rfl))))), ?_⟩
    obtain ⟨dx, j, p, m, l, r, h0, _⟩ := id hR
    walk_at "rd"
    refine Rq.methS ?_
    walk_at "rd"
    refine Rd.meth h0 rfl ?_
    walk_at "rd"
    refine ⟨Nat.le_of_ble_eq_true rfl, Rd.new fun t G nt gt s1 => ?_⟩
    walk_at "rd"
    refine ⟨b, t, n, z, o, x, y, kx, ky, J, M, rfl, hR.same s1, gt, ix.same s1, iy.same s1, ck.same s1 fun e1 e2 k => ?_⟩
    obtain ⟨u, rfl, un⟩ := okR_true ix e1
    obtain ⟨w, rfl, wn⟩ := okR_true iy e2
    clear h0
    obtain ⟨dx, j, p, m, l, r, h0, h1, h2, h3, h4, h5⟩ := hR.same s1
    walk_at "rd"
    refine Rd.fld h0 T.cl_Reckoning T.na_Reckoning_joins rfl ?_
    walk_at "rd"
    refine h1.two un wn (vr rfl) ?_
    walk_at "rd"
    exact k u w rfl rfl un wn _ s1
theorem ok_Reckoning_times (T : Txt K mg) : FnOk P w K mg base (L2.CX P w) 5 T.f_Reckoning_times T.fd_Reckoning_times ["self", "a", "b"] (sp_Reckoning_times K T.C_Reckoning T.C_BadWorth) := by
  refine T.F_Reckoning_times.okX sc_Reckoning_times (fun vs H Q E h => ?_) (fun cdv A outer s H vs Q E hr h => ?_)
  · obtain ⟨b, n, z, o, x, y, kx, ky, J, M, rfl, _⟩ := h
    rfl
  · obtain ⟨b, n, z, o, x, y, kx, ky, J, M, rfl, hR, ix, iy, ck⟩ := h
    refine ⟨_, (pss_cons (ps_expr (Rq.pe_methS (pv 0) T.cl_Reckoning T.h_Reckoning_check (ok_Reckoning_check T) (hr.mono (by decide)) T.b_Reckoning_check (fun σ => passAt (takes_of rfl rfl rfl rfl) σ) (pa_cons (pe_tup (pa_cons (pv 1) (pa_cons (pv 2) pa_nil))) pa_nil)))
  (pss_one (ps_ret (pe_ix (r := rIxT K) ix_tup (pe_ix (r := rIxT K) ix_tup (pe_fld (pv 0) rfl) (pv 1) (fun _ _ => rfl)) (pv 2) (fun _ _ => rfl))))), ?_⟩
    obtain ⟨dx, j, p, m, l, r, h0, _⟩ := id hR
    walk_at "rd"
    refine Rq.methS ?_
    walk_at "rd"
    refine Rd.meth h0 rfl ?_
    walk_at "rd"
    refine ⟨Nat.le_of_ble_eq_true rfl, Rd.new fun t G nt gt s1 => ?_⟩
    walk_at "rd"
    refine ⟨b, t, n, z, o, x, y, kx, ky, J, M, rfl, hR.same s1, gt, ix.same s1, iy.same s1, ck.same s1 fun e1 e2 k => ?_⟩
    obtain ⟨u, rfl, un⟩ := okR_true ix e1
    obtain ⟨w, rfl, wn⟩ := okR_true iy e2
    clear h0
    obtain ⟨dx, j, p, m, l, r, h0, h1, h2, h3, h4, h5⟩ := hR.same s1
    walk_at "rd"
    refine Rd.fld h0 T.cl_Reckoning T.na_Reckoning_products rfl ?_
    walk_at "rd"
    refine h2.two un wn (vr rfl) ?_
    walk_at "rd"
    exact k u w rfl rfl un wn _ s1
theorem okL_true {k : Rx.Kd} {x : V} {H : Hp} (ix : Rx.Is H x k) (h : okL k = true) : x = .non ∨ ∃ i : Int, x = .int i ∧ 0 ≤ i := by
  cases ix with
  | int i =>
    rw [okL_int, decide_eq_true_iff] at h
    exact .inr ⟨i, rfl, h⟩
  | non => exact .inl rfl
  | _ => cases h
def lJoin : V → V → V
  | .non, y => y
  | x, .non => x
  | .int a, .int b => .int (min a b)
  | _, _ => .non
def lTimes : V → V → V
  | .int a, .int b => .int (a + b)
  | _, _ => .non
def sp_Lengths_check (K : PySem.W.Frag) (C CW : Addr) : Sp := fun vs H Q E => ∃ (b t : Addr) (x y : V) (kx ky : Rx.Kd), vs = [.ref b, .ref t] ∧ LenAt C H b ∧ H t = some (.tup [x, y]) ∧ Rx.Is H x kx ∧ Rx.Is H y ky ∧ Chk CW H E x y (okL kx) (okL ky) (Q .non H)
def LnM (K : PySem.W.Frag) (C CW : Addr) (f : V → V → V) : Sp := fun vs H Q E => ∃ (b : Addr) (x y : V) (kx ky : Rx.Kd), vs = [.ref b, x, y] ∧ LenAt C H b ∧ Rx.Is H x kx ∧ Rx.Is H y ky ∧ Chk CW H E x y (okL kx) (okL ky) (∀ H', Same H H' → Q (f x y) H')
def sp_Lengths_join (K : PySem.W.Frag) (C CW : Addr) : Sp := LnM K C CW lJoin
def sp_Lengths_times (K : PySem.W.Frag) (C CW : Addr) : Sp := LnM K C CW lTimes
theorem ok_Lengths_check (T : Txt K mg) : FnOk P w K mg base (L2.CX P w) 4 T.f_Lengths_check T.fd_Lengths_check ["self", "worths"] (sp_Lengths_check K T.C_Lengths T.C_BadWorth) := by
  refine T.F_Lengths_check.okX sc_Lengths_check (fun vs H Q E h => ?_) (fun cdv A outer s H vs Q E hr h => ?_)
  · obtain ⟨b, t, x, y, kx, ky, rfl, _⟩ := h
    rfl
  · obtain ⟨b, t, x, y, kx, ky, rfl, ⟨dx, h0⟩, ht, ix, iy, k1, k2, k3⟩ := h
    refine ⟨_, (pss_one (ps_for (passes_of rfl) rfl (pi_tup (pv 1)) (pg_name (i := 2) sc_Lengths_check.nd rfl (.inl rfl))
  (pss_one (ps_if (pt_not (pt_val (pe_meth (pv 0) T.cl_Lengths T.h_Lengths_is_worth (ok_Lengths_is_worth T) (hr.mono (by decide)) T.b_Lengths_is_worth .nil pass0 (pa_cons (pv 2) pa_nil))))
  (pss_one (Rx.ps_raise1 rfl T.X_BadWorth T.tI_WayError_init (ok_WayError_init T) (hr.mono (by decide)) T.b_WayError_init rfl T.c_BadWorth (takes_of rfl rfl rfl rfl) (pv 2)))
  pss_nil)))), ?_⟩
    walk_at "rd"
    refine Rd.forS ?_
    walk_at "rd"
    refine ⟨⟨_, .of ht⟩, for_tup (K := K) (a := t) (xs := [x, y]) (fun i σ H' => ∃ (o3 : Option V), σ = [some (.ref b), some (.ref t), o3] ∧ H' = H ∧ (0 < i → okL kx = true) ∧ (1 < i → okL ky = true)) ⟨_, rfl, rfl, fun h => absurd h (Nat.lt_irrefl 0), fun h => by omega⟩ (fun i σ H' _ ⟨_, _, e, _⟩ => e ▸ .of ht) ?_ ?_⟩
    · rintro i v _ H1 hv ⟨o3, rfl, eH, e1, e2⟩
      obtain rfl : H = H1 := eH.symm
      walk_at "rd"
      refine Rd.meth h0 rfl ?_
      walk_at "rd"
      match i, hv with
      | 0, hv =>
        cases (Option.some.inj hv)
        refine ⟨b, x, kx, rfl, .is ix, ?_⟩
        cases c : okL kx with
        | false =>
          walk_at "rd"
          exact (k1 c).now (Same.refl _)
        | true =>
          walk_at "rd"
          exact ⟨_, rfl, rfl, fun _ => rfl, fun h => by omega⟩
      | 1, hv =>
        cases (Option.some.inj hv)
        refine ⟨b, y, ky, rfl, .is iy, ?_⟩
        cases c : okL ky with
        | false =>
          walk_at "rd"
          exact (k2 (e1 (by decide)) c).now (Same.refl _)
        | true =>
          walk_at "rd"
          exact ⟨_, rfl, rfl, fun _ => e1 (by decide), fun _ => rfl⟩
      | i + 2, hv => simp at hv
    · rintro _ H1 ⟨o3, rfl, eH, e1, e2⟩
      obtain rfl : H = H1 := eH.symm
      walk_at "rd"
      exact k3 (e1 (Nat.lt_of_lt_of_le Nat.zero_lt_two (Nat.le_refl _))) (e2 (Nat.lt_of_lt_of_le Nat.one_lt_two (Nat.le_refl _)))
theorem ok_Lengths_join (T : Txt K mg) : FnOk P w K mg base (L2.CX P w) 5 T.f_Lengths_join T.fd_Lengths_join ["self", "a", "b"] (sp_Lengths_join K T.C_Lengths T.C_BadWorth) := by
  refine T.F_Lengths_join.okX sc_Lengths_join (fun vs H Q E h => ?_) (fun cdv A outer s H vs Q E hr h => ?_)
  · obtain ⟨b, x, y, kx, ky, rfl, _⟩ := h
    rfl
  · obtain ⟨b, x, y, kx, ky, rfl, ⟨dx, h0⟩, ix, iy, ck⟩ := h
    refine ⟨_, (pss_cons (ps_expr (Rq.pe_methS (pv 0) T.cl_Lengths T.h_Lengths_check (ok_Lengths_check T) (hr.mono (by decide)) T.b_Lengths_check (fun σ => passAt (takes_of rfl rfl rfl rfl) σ) (pa_cons (pe_tup (pa_cons (pv 1) (pa_cons (pv 2) pa_nil))) pa_nil)))
  (pss_cons (ps_if (PW.pt (pw_or (pt_cmpR op_isN (pv 1) pe_non (nomark _)) (pw_or1 (pt_cmpR op_isN (pv 2) pe_non (nomark _)))))
  (pss_one (ps_ret (pe_ifExp (pt_cmpR op_isN (pv 1) pe_non (nomark _)) (pv 2) (pv 1))))
  pss_nil)
  (pss_one (ps_ret (pe_callB (id := "min") (r := _) (Rd.c_min2 rfl) (by rfl) T.n_min (by decide +kernel) (pa_cons (pe_callTy (T := "int") (r := _) Rd.c_int (by rfl) T.n_int (by decide +kernel) (pa_cons (pv 1) pa_nil)) (pa_cons (pe_callTy (T := "int") (r := _) Rd.c_int (by rfl) T.n_int (by decide +kernel) (pa_cons (pv 2) pa_nil)) pa_nil))))))), ?_⟩
    walk_at "rd"
    refine Rq.methS ?_
    walk_at "rd"
    refine Rd.meth h0 rfl ?_
    walk_at "rd"
    refine ⟨Nat.le_of_ble_eq_true rfl, Rd.new fun t G nt gt s1 => ?_⟩
    walk_at "rd"
    refine ⟨b, t, x, y, kx, ky, rfl, ⟨dx, s1 _ _ h0⟩, gt, ix.same s1, iy.same s1, ck.same s1 fun e1 e2 k => ?_⟩
    have jx := okL_true ix e1
    have jy := okL_true iy e2
    replace k := k _ s1
    walk_at "rd"
    rcases jx with rfl | ⟨i, rfl, i0⟩
    · rcases jy with rfl | ⟨j, rfl, j0⟩
      · walk_at "go"
        exact k
      · walk_at "go"
        exact k
    · rcases jy with rfl | ⟨j, rfl, j0⟩
      · walk_at "go"
        exact k
      · walk_at "go"
        exact k
theorem ok_Lengths_times (T : Txt K mg) : FnOk P w K mg base (L2.CX P w) 5 T.f_Lengths_times T.fd_Lengths_times ["self", "a", "b"] (sp_Lengths_times K T.C_Lengths T.C_BadWorth) := by
  refine T.F_Lengths_times.okX sc_Lengths_times (fun vs H Q E h => ?_) (fun cdv A outer s H vs Q E hr h => ?_)
  · obtain ⟨b, x, y, kx, ky, rfl, _⟩ := h
    rfl
  · obtain ⟨b, x, y, kx, ky, rfl, ⟨dx, h0⟩, ix, iy, ck⟩ := h
    refine ⟨_, (pss_cons (ps_expr (Rq.pe_methS (pv 0) T.cl_Lengths T.h_Lengths_check (ok_Lengths_check T) (hr.mono (by decide)) T.b_Lengths_check (fun σ => passAt (takes_of rfl rfl rfl rfl) σ) (pa_cons (pe_tup (pa_cons (pv 1) (pa_cons (pv 2) pa_nil))) pa_nil)))
  (pss_one (ps_ret (pe_ifExp (PW.pt (pw_or (pt_cmpR op_isN (pv 1) pe_non (nomark _)) (pw_or1 (pt_cmpR op_isN (pv 2) pe_non (nomark _))))) pe_non (pe_op op_add (pv 1) (pv 2)))))), ?_⟩
    walk_at "rd"
    refine Rq.methS ?_
    walk_at "rd"
    refine Rd.meth h0 rfl ?_
    walk_at "rd"
    refine ⟨Nat.le_of_ble_eq_true rfl, Rd.new fun t G nt gt s1 => ?_⟩
    walk_at "rd"
    refine ⟨b, t, x, y, kx, ky, rfl, ⟨dx, s1 _ _ h0⟩, gt, ix.same s1, iy.same s1, ck.same s1 fun e1 e2 k => ?_⟩
    have jx := okL_true ix e1
    have jy := okL_true iy e2
    replace k := k _ s1
    walk_at "rd"
    rcases jx with rfl | ⟨i, rfl, i0⟩
    · rcases jy with rfl | ⟨j, rfl, j0⟩
      · walk_at "go"
        exact k
      · walk_at "go"
        exact k
    · rcases jy with rfl | ⟨j, rfl, j0⟩
      · walk_at "go"
        exact k
      · walk_at "go"
        exact k

end
end W

namespace W
open PySem PySem.Spec PyProof.Rows L2
section
variable {P : Program} {w : World} {K : PySem.W.Frag} {mg : Str → Option Value} {base : Heap}
open Mr (Rk joined joined_lt metF leftF rightF topF)
/-! ### check_reckoning, fits_table, is_table -/
/-- no reckoning -/
def NoRe (K : PySem.W.Frag) (H : Hp) (x : V) : Prop := ∃ k : Rx.Kd, Rx.Is H x k
/-- many places, as is_table is handed: a right number, or something else -/
def manyB : Rx.Kd → Bool
  | .int i => decide (1 ≤ i) && decide (i ≤ 10)
  | _ => false
theorem ReAt.ask4 (T : Txt K mg) {H : Hp} {b tp : Addr} {wd : Wd} {Q : VK} (ht : H tp = some (.tup [.ref T.C_Reckoning, .ref T.C_Lengths, .ref T.C_Tongues, .ref T.C_Numbers])) (h : ReAt K T.C_Reckoning T.C_Lengths T.C_Numbers T.C_Ratio H b wd) (q : Q (.bl true) H) : rIsiT K [.ref b, .ref tp] H Q := by
  cases wd with
  | len =>
    obtain ⟨dx, e⟩ := h
    exact Bw.ask4 (a := false) (b := true) (c := false) (d := false) ht (.base (.ins e T.cl_Lengths T.ty_Lengths.ha T.ty_Lengths.hn T.ty_Lengths.htk T.ty_Lengths.hm)) (Rp.kitO_own T.ic_Reckoning T.tc_Reckoning T.s_Lengths_Reckoning (sub_ne T.sl_Reckoning T.s_Lengths_Reckoning)) kit_self (Rp.kitO_own T.ic_Tongues T.tc_Tongues T.s_Lengths_Tongues (sub_ne T.sl_Tongues T.s_Lengths_Tongues)) (Rp.kitO_own T.ic_Numbers T.tc_Numbers T.s_Lengths_Numbers (sub_ne T.sl_Numbers T.s_Lengths_Numbers)) q
  | num =>
    obtain ⟨dx, _, _, e, _⟩ := h
    exact Bw.ask4 (a := false) (b := false) (c := false) (d := true) ht (.base (.ins e T.cl_Numbers T.ty_Numbers.ha T.ty_Numbers.hn T.ty_Numbers.htk T.ty_Numbers.hm)) (Rp.kitO_own T.ic_Reckoning T.tc_Reckoning T.s_Numbers_Reckoning (sub_ne T.sl_Reckoning T.s_Numbers_Reckoning)) (Rp.kitO_own T.ic_Lengths T.tc_Lengths T.s_Numbers_Lengths (sub_ne T.sl_Lengths T.s_Numbers_Lengths)) (Rp.kitO_own T.ic_Tongues T.tc_Tongues T.s_Numbers_Tongues (sub_ne T.sl_Tongues T.s_Numbers_Tongues)) kit_self q
  | rk n J M z o =>
    obtain ⟨dx, _, _, _, _, _, e, _⟩ := h
    exact Bw.ask4 (a := true) (b := false) (c := false) (d := false) ht (.base (.ins e T.cl_Reckoning T.ty_Reckoning.ha T.ty_Reckoning.hn T.ty_Reckoning.htk T.ty_Reckoning.hm)) kit_self (Rp.kitO_own T.ic_Lengths T.tc_Lengths T.s_Reckoning_Lengths (sub_ne T.sl_Lengths T.s_Reckoning_Lengths)) (Rp.kitO_own T.ic_Tongues T.tc_Tongues T.s_Reckoning_Tongues (sub_ne T.sl_Tongues T.s_Reckoning_Tongues)) (Rp.kitO_own T.ic_Numbers T.tc_Numbers T.s_Reckoning_Numbers (sub_ne T.sl_Numbers T.s_Reckoning_Numbers)) q
theorem NoRe.ask4 (T : Txt K mg) {H : Hp} {x : V} {tp : Addr} {Q : VK} (ht : H tp = some (.tup [.ref T.C_Reckoning, .ref T.C_Lengths, .ref T.C_Tongues, .ref T.C_Numbers])) (h : NoRe K H x) (q : Q (.bl false) H) : rIsiT K [x, .ref tp] H Q := by
  obtain ⟨k, i⟩ := h
  exact Bw.ask4 (a := false) (b := false) (c := false) (d := false) ht i.ty (kdOwn T.ic_Reckoning T.tc_Reckoning k) (kdOwn T.ic_Lengths T.tc_Lengths k) (kdOwn T.ic_Tongues T.tc_Tongues k) (kdOwn T.ic_Numbers T.tc_Numbers k) q
def sp_check_reckoning (K : PySem.W.Frag) (CK CL CN CT CR CB CM : Addr) : Sp := fun vs H Q E => ∃ x : V, vs = [x] ∧
  ((∃ (b : Addr) (wd : Wd), x = .ref b ∧ ReAt K CK CL CN CR H b wd ∧ ∀ H', Same H H' → Q x H') ∨ (NoRe K H x ∧ Rx.Raised CB x H E))
def sp_fits_table (K : PySem.W.Frag) (CK CL CN CT CR CB CM : Addr) : Sp := fun vs H Q _ => ∃ (b t n : Nat) (x : V) (wd : Wd) (tk : Tbk), vs = [.ref b, .int (n : Nat), x] ∧ n ≤ 1000 ∧ ReAt K CK CL CN CR H b wd ∧ TbI CR t H x tk ∧ ∀ H', Same H H' → Q (.bl (tk.fits wd n)) H'
def sp_is_table (K : PySem.W.Frag) (CK CL CN CT CR CB CM : Addr) : Sp := fun vs H Q E => ∃ (x y z : V), vs = [x, y, z] ∧
  ((∃ (b t n : Nat) (wd : Wd) (tk : Tbk), x = .ref b ∧ y = .int (n : Nat) ∧ 1 ≤ n ∧ n ≤ 10 ∧ ReAt K CK CL CN CR H b wd ∧ TbI CR t H z tk ∧ ∀ H', Same H H' → Q (.bl (tk.fits wd n)) H') ∨
   (∃ (b : Nat) (wd : Wd) (k : Rx.Kd), x = .ref b ∧ ReAt K CK CL CN CR H b wd ∧ IsX K H y k ∧ manyB k = false ∧ Rx.Raised CM y H E) ∨
   (NoRe K H x ∧ Rx.Raised CB x H E))
theorem prd_get {α : Type} {R : V → α → Prop} {xs : List V} {ks : List α} (h : Paired R xs ks) : ∀ {i : Nat} {x : V}, xs[i]? = some x → ∃ k, ks[i]? = some k ∧ R x k := by
  induction h with
  | nil => intro i x e; simp at e
  | cons a _ ih =>
    intro i x e
    cases i with
    | zero => simp at e; subst e; exact ⟨_, rfl, a⟩
    | succ i => exact ih (i := i) (by simpa using e)
/-- is_worth of any of the three -/
theorem ReAt.worth (T : Txt K mg) {H : Hp} {b t i j : Nat} {x : V} {wd : Wd} {w : Wk} {σ : L2.St} {Q : VK} (hR : ReAt K T.C_Reckoning T.C_Lengths T.C_Numbers T.C_Ratio H b wd) (hw : WkI T.C_Ratio t H x w) (ei : σ[i]? = some (some (.ref b))) (ej : σ[j]? = some (some x)) (q : Q (.bl (okW wd w)) H) :
    tMeth T.C_Reckoning "is_worth" (sp_Reckoning_is_worth K T.C_Reckoning) [] E0 (tVar i) (tCons (tVar j) tNil) σ H Q ∨ tMeth T.C_Lengths "is_worth" (sp_Lengths_is_worth K T.C_Lengths) [] E0 (tVar i) (tCons (tVar j) tNil) σ H Q ∨ tMeth T.C_Numbers "is_worth" (sp_Numbers_is_worth K T.C_Numbers T.C_Ratio) [] E0 (tVar i) (tCons (tVar j) tNil) σ H Q := by
  cases wd with
  | len =>
    obtain ⟨dx, e⟩ := hR
    exact .inr (.inl (Exists.intro _ (And.intro ei (Rd.meth e rfl (Exists.intro _ (And.intro ej ⟨b, x, w.kind, rfl, hw.isX T, q⟩))))))
  | num =>
    obtain ⟨dx, _, _, e, _⟩ := hR
    exact .inr (.inr (Exists.intro _ (And.intro ei (Rd.meth e rfl (Exists.intro _ (And.intro ej ⟨b, x, w.num, rfl, hw.numB T, q⟩))))))
  | rk n J M z o =>
    have h : RkAt K T.C_Reckoning H b n J M z o := hR
    obtain ⟨dx, _, _, _, _, _, e, _⟩ := id h
    exact .inl (Exists.intro _ (And.intro ei (Rd.meth e rfl (Exists.intro _ (And.intro ej ⟨b, n, z, o, x, w.kind, J, M, rfl, h, hw.isX T, q⟩)))))
theorem ok_check_reckoning (T : Txt K mg) : FnOk P w K mg base (L2.CX P w) 4 T.f_check_reckoning T.fd_check_reckoning ["thing"] (sp_check_reckoning K T.C_Reckoning T.C_Lengths T.C_Numbers T.C_Tongues T.C_Ratio T.C_BadReckoning T.C_BadWeb) := by
  refine T.F_check_reckoning.okX sc_check_reckoning (fun vs H Q E h => ?_) (fun cdv A outer s H vs Q E hr h => ?_)
  · obtain ⟨x, rfl, _⟩ := h
    rfl
  · obtain ⟨x, rfl, h⟩ := h
    refine ⟨_, (pss_cons (ps_if (pt_not (pt_val (pe_callB (id := "isinstance") (r := rIsiT K) call_isiT (by rfl) T.n_isinstance (by decide +kernel) (pa_cons (pv 0) (pa_cons (pe_tup (pa_cons (pe_glob (v := .ref T.C_Reckoning) rfl T.c_Reckoning rfl) (pa_cons (pe_glob (v := .ref T.C_Lengths) rfl T.c_Lengths rfl) (pa_cons (pe_glob (v := .ref T.C_Tongues) rfl T.c_Tongues rfl) (pa_cons (pe_glob (v := .ref T.C_Numbers) rfl T.c_Numbers rfl) pa_nil))))) pa_nil)))))
  (pss_one (Rx.ps_raise1 rfl T.X_BadReckoning T.tI_WayError_init (ok_WayError_init T) (hr.mono (by decide)) T.b_WayError_init rfl T.c_BadReckoning (takes_of rfl rfl rfl rfl) (pv 0)))
  pss_nil)
  (pss_one (ps_ret (pv 0)))), ?_⟩
    walk_at "rd"
    refine ⟨Nat.le_of_ble_eq_true rfl, Rd.new fun p G np gp s1 => ?_⟩
    walk_at "rd"
    rcases h with ⟨b, wd, rfl, hR, k⟩ | ⟨no, k⟩
    · refine (hR.same s1).ask4 T gp ?_
      walk_at "rd"
      exact k _ s1
    · refine NoRe.ask4 T gp (no.imp fun _ i => i.same s1) ?_
      walk_at "rd"
      exact k.now s1
end
end W

namespace W
open PySem PySem.Spec PyProof.Rows L2
section
variable {P : Program} {w : World} {K : PySem.W.Frag} {mg : Str → Option Value} {base : Heap}
set_option exponentiation.threshold 10000
open Mr (Rk joined joined_lt metF leftF rightF topF)
/-! ### the law's worlds, their reckonings and worths -/
def WoAt (H : Hp) (x : V) : Wd → Prop
  | .len => x = .str "lengths"
  | .num => x = .str "numbers"
  | .rk n J M z o => ∃ d : Addr, x = .ref d ∧ ToldAt H d n J M z o ∧ Rk n J M z o
theorem WoAt.same {H H' : Hp} {x : V} {wd : Wd} (s : Same H H') (h : WoAt H x wd) : WoAt H' x wd := by
  cases wd with
  | len => exact h
  | num => exact h
  | rk n J M z o => obtain ⟨d, e, h, r⟩ := h; exact ⟨d, e, h.same s, r⟩
theorem WoAt.tape {H H' : Hp} {t c : Addr} {x : V} {wd : Wd} (ht : Tape H t c) (off : Rd.But t H H') (h : WoAt H x wd) : WoAt H' x wd := by
  cases wd with
  | len => exact h
  | num => exact h
  | rk n J M z o => obtain ⟨d, e, h, r⟩ := h; exact ⟨d, e, h.tape ht off, r⟩
/-- whether it is the text "lengths" -/
def Wd.isLen : Wd → Bool | .len => true | _ => false
def Wd.isNum : Wd → Bool | .num => true | _ => false
theorem WoAt.is {H : Hp} {x : V} {wd : Wd} (h : WoAt H x wd) : ∃ k, Rx.Is H x k ∧ Be.isT "lengths" k = wd.isLen ∧ Be.isT "numbers" k = wd.isNum := by
  cases wd with
  | len => obtain rfl : x = .str "lengths" := h; exact ⟨_, .str (by decide), by decide +kernel, by decide +kernel⟩
  | num => obtain rfl : x = .str "numbers" := h; exact ⟨_, .str (by decide), by decide +kernel, by decide +kernel⟩
  | rk n J M z o =>
    obtain ⟨d, rfl, ⟨j, p, hd, _⟩, r⟩ := h
    exact ⟨_, .lst hd (Nat.le_of_ble_eq_true rfl), rfl, rfl⟩
theorem WoAt.eqL {H : Hp} {x : V} {wd : Wd} {Q : VK} (h : WoAt H x wd) (q : Q (.bl wd.isLen) H) : Be.rEqZ x (.str "lengths") H Q := let ⟨_, i, e, _⟩ := h.is; Be.eqZ i (by rw [e]; exact q)
theorem WoAt.eqN {H : Hp} {x : V} {wd : Wd} {Q : VK} (h : WoAt H x wd) (q : Q (.bl wd.isNum) H) : Be.rEqZ x (.str "numbers") H Q := let ⟨_, i, _, e⟩ := h.is; Be.eqZ i (by rw [e]; exact q)
/-- worths, plain -/
inductive Pv where
  | non
  | int (i : Int)
  | rat (r : Rat)
/-- of which world a plain worth is -/
def Wd.has : Wd → Pv → Prop
  | .len, .non => True
  | .len, .int i => 0 ≤ i
  | .num, .rat _ => True
  | .rk n _ _ _ _, .int i => 0 ≤ i ∧ i < n
  | _, _ => False
/-- a worth as the law writes it -/
def RawI (k : Nat) (H : Hp) (x : V) : Pv → Prop
  | .non => x = .non
  | .int i => x = .int i
  | .rat r => ∃ (a : Addr) (t b : Int), x = .ref a ∧ H a = some (.tup [.int t, .int b]) ∧ 0 < b ∧ r = Rat.divInt t b ∧ t.natAbs < 2 ^ k ∧ b.natAbs < 2 ^ k
theorem RawI.same {k : Nat} {H H' : Hp} {x : V} {v : Pv} (s : Same H H') (h : RawI k H x v) : RawI k H' x v := by
  cases v with
  | non => exact h
  | int i => exact h
  | rat r => obtain ⟨a, t, b, e, h, r⟩ := h; exact ⟨a, t, b, e, s _ _ h, r⟩
theorem RawI.tape {k : Nat} {H H' : Hp} {t c : Addr} {x : V} {v : Pv} (ht : Tape H t c) (off : Rd.But t H H') (h : RawI k H x v) : RawI k H' x v := by
  cases v with
  | non => exact h
  | int i => exact h
  | rat r => obtain ⟨a, t, b, e, h, r⟩ := h; exact ⟨a, t, b, e, tup_tape ht off h, r⟩
/-- a worth as the program writes it -/
def HdI (C : Addr) (H : Hp) (x : V) : Pv → Prop
  | .non => x = .non
  | .int i => x = .int i
  | .rat r => NumAt C H x r
theorem HdI.same {C : Addr} {H H' : Hp} {x : V} {v : Pv} (s : Same H H') (h : HdI C H x v) : HdI C H' x v := by
  cases v with
  | non => exact h
  | int i => exact h
  | rat r => exact NumAt.same s h
theorem HdI.tape {C : Addr} {H H' : Hp} {t c : Addr} {x : V} {v : Pv} (ht : Tape H t c) (off : Rd.But t H H') (h : HdI C H x v) : HdI C H' x v := by
  cases v with
  | non => exact h
  | int i => exact h
  | rat r => exact NumAt.tape ht off h
/-- so it is a worth of its world -/
theorem HdI.ok {C t : Addr} {H : Hp} {x : V} {v : Pv} {wd : Wd} (h : HdI C H x v) (e : wd.has v) : ∃ w, WkI C t H x w ∧ okW wd w = true := by
  cases v with
  | non =>
    obtain rfl : x = .non := h
    cases wd <;> first | exact e.elim | exact ⟨.kd .non, ⟨.non, fun e => nomatch e⟩, rfl⟩
  | int i =>
    obtain rfl : x = .int i := h
    cases wd with
    | len => exact ⟨.kd (.int i), ⟨.int i, fun e => nomatch e⟩, decide_eq_true (show (0 : Int) ≤ i from e)⟩
    | num => exact e.elim
    | rk n J M z o =>
      have e' : 0 ≤ i ∧ i < n := e
      refine ⟨.kd (.int i), ⟨.int i, fun e => nomatch e⟩, ?_⟩
      show (decide (0 ≤ i) && decide (i < (n : Nat))) = true
      rw [decide_eq_true e'.1, decide_eq_true e'.2]
      rfl
  | rat r =>
    cases wd with
    | num =>
      rcases (show NumAt C H x r from h) with ⟨b, rfl, hb⟩ | ⟨i, rfl, _⟩
      · exact ⟨.rat, ⟨b, r, rfl, hb⟩, rfl⟩
      · exact ⟨.kd (.int i), ⟨.int i, fun e => nomatch e⟩, rfl⟩
    | _ => exact e.elim
def Wd.noneP : Wd → Pv
  | .len => .non
  | .num => .rat 0
  | .rk _ _ _ z _ => .int (z : Nat)
theorem WoAt.has_none {H : Hp} {x : V} {wd : Wd} (h : WoAt H x wd) : wd.has wd.noneP := by
  cases wd with
  | len => exact trivial
  | num => exact trivial
  | rk n J M z o => obtain ⟨d, _, _, r⟩ := h; exact ⟨by omega, by have := r.zn; omega⟩
def sp_l_world (K : PySem.W.Frag) : Sp := fun vs H Q _ => ∃ (t c : Addr), vs = [.ref t] ∧ Tape H t c ∧ ∀ x wd H', WoAt H' x wd → Tape H' t c → Rd.But t H H' → Q x H'
def sp_l_reckoning (K : PySem.W.Frag) (CK CL CN CT CR CB CM : Addr) : Sp := fun vs H Q _ => ∃ (x : V) (wd : Wd), vs = [x] ∧ WoAt H x wd ∧ ∀ b H', ReAt K CK CL CN CR H' b wd → Same H H' → Q (.ref b) H'
def sp_l_none (K : PySem.W.Frag) : Sp := fun vs H Q _ => ∃ (x : V) (wd : Wd), vs = [x] ∧ WoAt H x wd ∧ ∀ y H', RawI 10 H' y wd.noneP → Same H H' → Q y H'
def sp_l_handed (K : PySem.W.Frag) (C : Addr) : Sp := fun vs H Q _ => ∃ (x y : V) (wd : Wd) (v : Pv) (k : Nat), vs = [x, y] ∧ WoAt H x wd ∧ wd.has v ∧ RawI k H y v ∧ k ≤ 9000 ∧ ∀ u H', HdI C H' u v → Same H H' → Q u H'
/-- a fraction over D, its top at most B -/
def Pv.fz (D B : Nat) : Pv → Prop
  | .rat r => ∃ z : Int, r = Rat.divInt z D ∧ z.natAbs ≤ B
  | _ => True
theorem fz42 {t m w : Int} (m0 : 0 < m) (e : m * w = 42) (t9 : t.natAbs ≤ 999) (t0 : t ≠ 0) : (Pv.rat (Rat.divInt t m)) ≠ .rat 0 ∧ (Pv.rat (Rat.divInt t m)).fz 42 43000 := by
  have w0 : w ≠ 0 := fun z => by rw [z, Int.mul_zero] at e; cases e
  have w42 : w.natAbs ≤ 42 := by
    have h := congrArg Int.natAbs e
    rw [Int.natAbs_mul] at h
    exact Nat.le_of_dvd (by decide) ⟨m.natAbs, by rw [Nat.mul_comm]; exact h.symm⟩
  refine ⟨fun h => ?_, t * w, ?_, ?_⟩
  · injection h with h
    have q := (Mx.same_of (r := 0) (t := t) (u := m) (by omega)).mpr h.symm
    rw [show (0 : Rat).num = 0 from rfl, show (0 : Rat).den = 1 from rfl, Int.zero_mul] at q
    omega
  · rw [show ((42 : Nat) : Int) = m * w from e.symm, Rat.divInt_mul_right w0]
  · rw [Int.natAbs_mul]
    exact Nat.le_trans (Nat.mul_le_mul t9 w42) (by decide)
def sp_l_worth (K : PySem.W.Frag) : Sp := fun vs H Q _ => ∃ (t c : Addr) (x : V) (wd : Wd), vs = [.ref t, x] ∧ Tape H t c ∧ WoAt H x wd ∧ ∀ y v H', RawI 10 H' y v → wd.has v → (v ≠ wd.noneP ∧ v.fz 42 43000) → Tape H' t c → Rd.But t H H' → Q y H'
def sp_l_any (K : PySem.W.Frag) : Sp := fun vs H Q _ => ∃ (t c : Addr) (x : V) (wd : Wd), vs = [.ref t, x] ∧ Tape H t c ∧ WoAt H x wd ∧ ∀ y v H', RawI 10 H' y v → wd.has v → Tape H' t c → Rd.But t H H' → Q y H'
theorem pickL {K : PySem.W.Frag} {H : Hp} {p : Addr} {xs : List V} {r : Int} {Q : VK} (h : H p = some (.lst xs)) (r0 : 0 ≤ r) (r1 : r < (xs.length : Nat)) (k : ∀ v ∈ xs, Q v H) : rIxL K (.ref p) (.int r) H Q := by
  have l : r.toNat < xs.length := by omega
  exact Rd.ixL (.of h) (Rd.atI_of r0 (List.getElem?_eq_getElem l)) (k _ (List.getElem_mem l))
theorem mkN (T : Txt K mg) {H : Hp} {Q : VK} {E : XK} (k : ∀ b H', NumsAt T.C_Numbers T.C_Ratio H' b → Same H H' → Q (.ref b) H') : Rd.MkG T.C_Numbers (sp_Numbers_init K T.C_Numbers T.C_Ratio) [] E [] H Q := by
  refine Rd.mk fun x dx G nx nd ne gx s1 off => ?_
  exact ⟨x, dx, rfl, gx, fun H' hR bt => ⟨rfl, k x H' hR (made2 nx s1 bt)⟩⟩
theorem mkL (T : Txt K mg) {H : Hp} {Q : VK} {E : XK} (k : ∀ b H', LenAt T.C_Lengths H' b → Same H H' → Q (.ref b) H') : Rd.MkG T.C_Lengths (sp_Lengths_init K T.C_Lengths) [] E [] H Q := by
  refine Rd.mk fun x dx G nx nd ne gx s1 off => ?_
  exact ⟨x, dx, rfl, gx, fun H' hR bt => ⟨rfl, k x H' hR (made2 nx s1 bt)⟩⟩
theorem mkRk {C : Addr} {H : Hp} {Q : VK} {E : XK} {j p : Addr} {n z o : Nat} {J M : Nat → Nat → Nat} (hj : TblL H j n J) (hp : TblL H p n M) (r : Rk n J M z o) (k : ∀ b H', RkAt K C H' b n J M z o → Same H H' → Q (.ref b) H') : Rd.MkG C (sp_Reckoning_init K C) [] E [.ref j, .ref p, .int (z : Nat), .int (o : Nat)] H Q := by
  refine Rd.mk fun x dx G nx nd ne gx s1 off => ?_
  exact ⟨x, j, p, dx, n, z, o, J, M, rfl, gx, (hj.same s1).any, (hp.same s1).any, r, fun H' hR bt => ⟨rfl, k x H' hR (made2 nx s1 bt)⟩⟩
theorem ok_l_reckoning (T : Txt K mg) : FnOk P w K mg base CX0 8 T.f_l_reckoning T.fd_l_reckoning ["_law_world_here"] (sp_l_reckoning K T.C_Reckoning T.C_Lengths T.C_Numbers T.C_Tongues T.C_Ratio T.C_BadReckoning T.C_BadWeb) := by
  refine T.F_l_reckoning.ok sc_l_reckoning (fun vs H Q E h => ?_) (fun cdv A outer s H vs Q E hr h => ?_)
  · obtain ⟨x, wd, rfl, _⟩ := h
    rfl
  · obtain ⟨x, wd, rfl, hW, k⟩ := h
    refine ⟨_, (pss_cons (ps_if (pt_cmpR (r := Be.rEqZ) (Be.op_eqZ hr.units) (pv 0) pe_str (nomark _))
  (pss_one (ps_ret (pe_make0 T.M_Lengths (ok_Lengths_init T) (hr.mono (by decide)) rfl T.c_Lengths T.b_Lengths_init .nil pass0)))
  pss_nil)
  (pss_cons (ps_if (pt_cmpR (r := Be.rEqZ) (Be.op_eqZ hr.units) (pv 0) pe_str (nomark _))
  (pss_one (ps_ret (pe_make0 T.M_Numbers (ok_Numbers_init T) (hr.mono (by decide)) rfl T.c_Numbers T.b_Numbers_init .nil pass0)))
  pss_nil)
  (pss_one (ps_ret (pe_make T.M_Reckoning (ok_Reckoning_init T) (hr.mono (by decide)) rfl T.c_Reckoning T.b_Reckoning_init .nil pass0 (pa_cons (pe_ix (r := rIxL K) ix_list (pv 0) pe_int (fun _ _ => rfl)) (pa_cons (pe_ix (r := rIxL K) ix_list (pv 0) pe_int (fun _ _ => rfl)) (pa_cons (pe_ix (r := rIxL K) ix_list (pv 0) pe_int (fun _ _ => rfl)) (pa_cons (pe_ix (r := rIxL K) ix_list (pv 0) pe_int (fun _ _ => rfl)) pa_nil))))))))), ?_⟩
    walk_at "rd"
    refine hW.eqL ?_
    cases wd with
    | len =>
      walk_at "rd"
      refine Rd.yes rfl ?_
      walk_at "rd"
      exact mkL T fun b H' hb s => k b H' hb s
    | num =>
      walk_at "rd"
      refine Rd.no Bool.false_ne_true ?_
      walk_at "rd"
      refine hW.eqN ?_
      walk_at "rd"
      refine Rd.yes rfl ?_
      walk_at "rd"
      exact mkN T fun b H' hb s => k b H' hb s
    | rk n J M z o =>
      obtain ⟨d, rfl, ⟨j, p, hd, hj, hp⟩, r⟩ := id hW
      walk_at "rd"
      refine Rd.no Bool.false_ne_true ?_
      walk_at "rd"
      refine hW.eqN ?_
      walk_at "rd"
      refine Rd.no Bool.false_ne_true ?_
      walk_at "rd"
      refine told0 (k := 0) hd rfl ?_
      walk_at "rd"
      refine told0 (k := 1) hd rfl ?_
      walk_at "rd"
      refine told0 (k := 2) hd rfl ?_
      walk_at "rd"
      refine told0 (k := 3) hd rfl ?_
      walk_at "rd"
      exact mkRk hj hp r fun b H' hb s => k b H' hb s
theorem ok_l_none (T : Txt K mg) : FnOk P w K mg base CX0 1 T.f_l_none T.fd_l_none ["_law_world_here"] (sp_l_none K) := by
  refine T.F_l_none.ok sc_l_none (fun vs H Q E h => ?_) (fun cdv A outer s H vs Q E hr h => ?_)
  · obtain ⟨x, wd, rfl, _⟩ := h
    rfl
  · obtain ⟨x, wd, rfl, hW, k⟩ := h
    refine ⟨_, (pss_cons (ps_if (pt_cmpR (r := Be.rEqZ) (Be.op_eqZ hr.units) (pv 0) pe_str (nomark _))
  (pss_one (ps_ret pe_non))
  pss_nil)
  (pss_cons (ps_if (pt_cmpR (r := Be.rEqZ) (Be.op_eqZ hr.units) (pv 0) pe_str (nomark _))
  (pss_one (ps_ret (pe_tup (pa_cons pe_int (pa_cons pe_int pa_nil)))))
  pss_nil)
  (pss_one (ps_ret (pe_ix (r := rIxL K) ix_list (pv 0) pe_int (fun _ _ => rfl)))))), ?_⟩
    walk_at "rd"
    refine hW.eqL ?_
    cases wd with
    | len =>
      walk_at "rd"
      refine Rd.yes rfl ?_
      walk_at "rd"
      exact k _ _ rfl (Same.refl _)
    | num =>
      walk_at "rd"
      refine Rd.no Bool.false_ne_true ?_
      walk_at "rd"
      refine hW.eqN ?_
      walk_at "rd"
      refine Rd.yes rfl ?_
      walk_at "rd"
      refine ⟨Nat.le_of_ble_eq_true rfl, Rd.new fun p H1 np gp s1 => ?_⟩
      walk_at "rd"
      exact k _ _ ⟨p, 0, 1, rfl, gp, by decide, by decide +kernel, by decide, by decide⟩ s1
    | rk n J M z o =>
      obtain ⟨d, rfl, ⟨j, p, hd, hj, hp⟩, r⟩ := id hW
      walk_at "rd"
      refine Rd.no Bool.false_ne_true ?_
      walk_at "rd"
      refine hW.eqN ?_
      walk_at "rd"
      refine Rd.no Bool.false_ne_true ?_
      walk_at "rd"
      refine told0 (k := 2) hd rfl ?_
      walk_at "rd"
      exact k _ _ rfl (Same.refl _)
theorem ok_l_handed (T : Txt K mg) : FnOk P w K mg base CX0 6 T.f_l_handed T.fd_l_handed ["_law_world_here", "_law_worth_here"] (sp_l_handed K T.C_Ratio) := by
  refine T.F_l_handed.ok sc_l_handed (fun vs H Q E h => ?_) (fun cdv A outer s H vs Q E hr h => ?_)
  · obtain ⟨x, y, wd, v, n, rfl, _⟩ := h
    rfl
  · obtain ⟨x, y, wd, v, n, rfl, hW, hv, hy, n9, k⟩ := h
    refine ⟨_, (pss_cons (ps_if (pt_cmpR (r := Be.rEqZ) (Be.op_eqZ hr.units) (pv 0) pe_str (nomark _))
  (pss_cons (ps_if (pt_cmpR op_eq (pe_ix (r := rIxT K) ix_tup (pv 1) pe_int (fun _ _ => rfl)) pe_int (nomark _))
  (pss_one (ps_ret (pe_ix (r := rIxT K) ix_tup (pv 1) pe_int (fun _ _ => rfl))))
  pss_nil)
  (pss_one (ps_ret (pe_make T.M_Ratio (ok_Ratio_init T) (hr.mono (by decide)) rfl T.c_Ratio T.b_Ratio_init .nil passL (pa_cons (pe_ix (r := rIxT K) ix_tup (pv 1) pe_int (fun _ _ => rfl)) (pa_cons (pe_ix (r := rIxT K) ix_tup (pv 1) pe_int (fun _ _ => rfl)) pa_nil))))))
  pss_nil)
  (pss_one (ps_ret (pv 1)))), ?_⟩
    walk_at "rd"
    refine hW.eqN ?_
    cases wd with
    | num =>
      cases v with
      | non => exact hv.elim
      | int i => exact hv.elim
      | rat r =>
        obtain ⟨a, tt, b, rfl, ha, b0, rfl, zt, zb⟩ := hy
        walk_at "rd"
        refine Rd.yes rfl ?_
        walk_at "rd"
        refine Rd.ixT (.of ha) (atI_nat (j := 1) rfl) ?_
        walk_at "rd"
        by_cases c : b = 1
        · refine Rd.yes c ?_
          walk_at "rd"
          refine Rd.ixT (.of ha) (atI_nat (j := 0) rfl) ?_
          subst c
          exact k _ _ (by show NumAt _ _ _ _; rw [Mx.of_int]; exact .int tt) (Same.refl _)
        · refine Rd.no c ?_
          walk_at "rd"
          refine Rd.ixT (.of ha) (atI_nat (j := 0) rfl) ?_
          walk_at "rd"
          refine Rd.ixT (.of ha) (atI_nat (j := 1) rfl) ?_
          walk_at "rd"
          exact mkR rfl (by omega) (Nat.lt_of_lt_of_le zb (Nat.pow_le_pow_right (by decide) n9)) fun q H2 R s => k _ _ R.num s
    | len =>
      walk_at "rd"
      refine Rd.no Bool.false_ne_true ?_
      walk_at "rd"
      cases v with
      | non => exact k _ _ hy (Same.refl _)
      | int i => exact k _ _ hy (Same.refl _)
      | rat r => exact hv.elim
    | rk m J M z o =>
      walk_at "rd"
      refine Rd.no Bool.false_ne_true ?_
      walk_at "rd"
      cases v with
      | non => exact k _ _ hy (Same.refl _)
      | int i => exact k _ _ hy (Same.refl _)
      | rat r => exact hv.elim
theorem ok_l_world (T : Txt K mg) : FnOk P w K mg base CX0 4 T.f_l_world T.fd_l_world ["_law_hand_here"] (sp_l_world K) := by
  refine T.F_l_world.ok sc_l_world (fun vs H Q E h => ?_) (fun cdv A outer s H vs Q E hr h => ?_)
  · obtain ⟨t, c, rfl, _⟩ := h
    rfl
  · obtain ⟨t, c, rfl, hT, k⟩ := h
    refine ⟨_, (pss_cons (ps_set (i := 1) sc_l_world.nd rfl (.inl rfl) (pe_call (ok_l_draw T) (hr.mono (by decide)) rfl T.g_l_draw T.F_l_draw.kp T.b_l_draw .nil pass0 (pa_cons (pv 0) (pa_cons pe_int pa_nil))))
  (pss_cons (ps_if (pt_cmpR op_eq (pv 1) pe_int (nomark _))
  (pss_one (ps_ret pe_str))
  pss_nil)
  (pss_cons (ps_if (pt_cmpR op_eq (pv 1) pe_int (nomark _))
  (pss_one (ps_ret pe_str))
  pss_nil)
  (pss_one (ps_ret (pe_call (ok_l_made T) (hr.mono (by decide)) rfl T.g_l_made T.F_l_made.kp T.b_l_made .nil pass0 (pa_cons (pv 0) pa_nil))))))), ?_⟩
    walk_at "rd"
    refine ⟨t, c, 4, rfl, hT, by decide, by decide, fun r H1 r0 r1 hT1 b1 => ?_⟩
    walk_at "rd"
    by_cases e0 : r = 0
    · refine Rd.yes e0 ?_
      walk_at "rd"
      exact k _ .len _ rfl hT1 b1
    refine Rd.no e0 ?_
    walk_at "rd"
    by_cases e1 : r = 1
    · refine Rd.yes e1 ?_
      walk_at "rd"
      exact k _ .num _ rfl hT1 b1
    refine Rd.no e1 ?_
    walk_at "rd"
    exact ⟨t, c, rfl, hT1, fun d n z o J M H2 td r hT2 b2 => k _ (.rk n J M z o) _ ⟨d, rfl, td, r⟩ hT2 (b1.trans b2)⟩
theorem ok_l_worth (T : Txt K mg) : FnOk P w K mg base CX0 2 T.f_l_worth T.fd_l_worth ["_law_hand_here", "_law_world_here"] (sp_l_worth K) := by
  refine T.F_l_worth.ok sc_l_worth (fun vs H Q E h => ?_) (fun cdv A outer s H vs Q E hr h => ?_)
  · obtain ⟨t, c, x, wd, rfl, _⟩ := h
    rfl
  · obtain ⟨t, c, x, wd, rfl, hT, hW, k⟩ := h
    refine ⟨_, (pss_cons (ps_if (pt_cmpR (r := Be.rEqZ) (Be.op_eqZ hr.units) (pv 1) pe_str (nomark _))
  (pss_one (ps_ret (pe_ix (r := rIxL K) ix_list (pe_lst (pa_cons pe_int (pa_cons pe_int (pa_cons pe_int (pa_cons (pe_call (ok_l_draw T) (hr.mono (by decide)) rfl T.g_l_draw T.F_l_draw.kp T.b_l_draw .nil pass0 (pa_cons (pv 0) (pa_cons pe_int pa_nil))) (pa_cons (pe_call (ok_l_draw T) (hr.mono (by decide)) rfl T.g_l_draw T.F_l_draw.kp T.b_l_draw .nil pass0 (pa_cons (pv 0) (pa_cons (pe_op op_pow pe_int pe_int) pa_nil))) pa_nil)))))) (pe_call (ok_l_draw T) (hr.mono (by decide)) rfl T.g_l_draw T.F_l_draw.kp T.b_l_draw .nil pass0 (pa_cons (pv 0) (pa_cons pe_int pa_nil))) (fun _ _ => rfl))))
  pss_nil)
  (pss_cons (ps_if (pt_cmpR (r := Be.rEqZ) (Be.op_eqZ hr.units) (pv 1) pe_str (nomark _))
  (pss_cons (ps_set (i := 2) sc_l_worth.nd rfl (.inl rfl) (pe_op op_add pe_int (pe_call (ok_l_draw T) (hr.mono (by decide)) rfl T.g_l_draw T.F_l_draw.kp T.b_l_draw .nil pass0 (pa_cons (pv 0) (pa_cons (pe_ix (r := rIxL K) ix_list (pe_lst (pa_cons pe_int (pa_cons pe_int (pa_cons pe_int pa_nil)))) (pe_call (ok_l_draw T) (hr.mono (by decide)) rfl T.g_l_draw T.F_l_draw.kp T.b_l_draw .nil pass0 (pa_cons (pv 0) (pa_cons pe_int pa_nil))) (fun _ _ => rfl)) pa_nil)))))
  (C8.pss_cut (ps_if (pt_cmpR op_eq (pe_call (ok_l_draw T) (hr.mono (by decide)) rfl T.g_l_draw T.F_l_draw.kp T.b_l_draw .nil pass0 (pa_cons (pv 0) (pa_cons pe_int pa_nil))) pe_int (nomark _))
  (pss_one (ps_set (i := 2) sc_l_worth.nd rfl (.inl rfl) (pe_op op_sub pe_int (pv 2))))
  pss_nil)
  (pss_one (ps_ret (pe_tup (pa_cons (pv 2) (pa_cons (pe_ix (r := rIxL K) ix_list (pe_lst (pa_cons pe_int (pa_cons pe_int (pa_cons pe_int (pa_cons pe_int (pa_cons pe_int pa_nil)))))) (pe_call (ok_l_draw T) (hr.mono (by decide)) rfl T.g_l_draw T.F_l_draw.kp T.b_l_draw .nil pass0 (pa_cons (pv 0) (pa_cons pe_int pa_nil))) (fun _ _ => rfl)) pa_nil)))))))
  pss_nil)
  (pss_cons (ps_set (i := 3) sc_l_worth.nd rfl (.inl rfl) (pe_call (ok_l_draw T) (hr.mono (by decide)) rfl T.g_l_draw T.F_l_draw.kp T.b_l_draw .nil pass0 (pa_cons (pv 0) (pa_cons (pe_op op_sub (pe_callB (id := "len") (r := Rd.nLen K) Rd.c_len (by rfl) T.n_len (by decide +kernel) (pa_cons (pe_ix (r := rIxL K) ix_list (pv 1) pe_int (fun _ _ => rfl)) pa_nil)) pe_int) pa_nil))))
  (pss_one (ps_ret (pe_op op_add (pv 3) (pe_callTy (T := "int") (r := _) Rd.c_int (by rfl) T.n_int (by decide +kernel) (pa_cons (pe_cmpR op_ge (pv 3) (pe_ix (r := rIxL K) ix_list (pv 1) pe_int (fun _ _ => rfl)) (nomark _)) pa_nil)))))))), ?_⟩
    walk_at "rd"
    refine hW.eqL ?_
    cases wd with
    | len =>
      walk_at "rd"
      refine Rd.yes rfl ?_
      walk_at "rd"
      refine ⟨t, c, 20, rfl, hT, by decide, by decide, fun q H1 q0 q1 hT1 b1 => ?_⟩
      walk_at "rd"
      refine Rd.iC ⟨by decide, by decide, by decide⟩ ?_
      walk_at "rd"
      refine ⟨t, c, 1000000000, rfl, hT1, by decide, by decide, fun u H2 u0 u1 hT2 b2 => ?_⟩
      walk_at "rd"
      refine ⟨Nat.le_of_ble_eq_true rfl, Rd.new fun p H3 np gp s3 => ?_⟩
      have hT3 := hT2.same s3
      walk_at "rd"
      refine ⟨t, c, 5, rfl, hT3, by decide, by decide, fun r H4 r0 r1 hT4 b4 => ?_⟩
      have gp4 := b4 _ _ (hT2.new np).1 gp
      refine pickL gp4 r0 (show r < 5 from r1) fun v hv => ?_
      have : ∃ i : Int, v = .int i ∧ 0 ≤ i := by
        rcases List.mem_cons.mp hv with rfl | hv
        · exact ⟨0, rfl, by decide⟩
        rcases List.mem_cons.mp hv with rfl | hv
        · exact ⟨1, rfl, by decide⟩
        rcases List.mem_cons.mp hv with rfl | hv
        · exact ⟨2, rfl, by decide⟩
        rcases List.mem_cons.mp hv with rfl | hv
        · exact ⟨q, rfl, q0⟩
        rcases List.mem_cons.mp hv with rfl | hv
        · exact ⟨u, rfl, u0⟩
        · cases hv
      obtain ⟨i, rfl, i0⟩ := this
      exact k _ (.int i) _ rfl i0 ⟨(fun e => nomatch e), trivial⟩ hT4 (((b1.trans b2).same s3).trans b4)
    | num =>
      walk_at "rd"
      refine Rd.no Bool.false_ne_true ?_
      walk_at "rd"
      refine hW.eqN ?_
      walk_at "rd"
      refine Rd.yes rfl ?_
      walk_at "rd"
      refine ⟨Nat.le_of_ble_eq_true rfl, Rd.new fun p H1 np gp s1 => ?_⟩
      have hT1 := hT.same s1
      walk_at "rd"
      refine ⟨t, c, 3, rfl, hT1, by decide, by decide, fun r H2 r0 r1 hT2 b2 => ?_⟩
      refine pickL (b2 _ _ (hT.new np).1 gp) r0 (show r < 3 from r1) fun v hv => ?_
      have : ∃ i : Int, v = .int i ∧ 0 < i ∧ i ≤ 999 := by
        rcases List.mem_cons.mp hv with rfl | hv
        · exact ⟨3, rfl, by decide, by decide⟩
        rcases List.mem_cons.mp hv with rfl | hv
        · exact ⟨20, rfl, by decide, by decide⟩
        rcases List.mem_cons.mp hv with rfl | hv
        · exact ⟨999, rfl, by decide, by decide⟩
        · cases hv
      obtain ⟨m, rfl, m0, m1⟩ := this
      walk_at "rd"
      refine ⟨t, c, m, rfl, hT2, m0, by omega, fun q H3 q0 q1 hT3 b3 => ?_⟩
      have b03 := (Rd.But.of s1).trans (b2.trans b3)
      clear b2 gp np s1 b3 hv
      walk_at "rd"
      refine Rd.cut (fun σ G => ∃ tp : Int, σ = [some (.ref t), some x, some (.int tp), none] ∧ (tp.natAbs ≤ 999 ∧ tp ≠ 0) ∧ Tape G t c ∧ Rd.But t H G) ?_ ?_
      · walk_at "rd"
        refine ⟨t, c, 3, rfl, hT3, by decide, by decide, fun r H4 r0 r1 hT4 b4 => ?_⟩
        walk_at "rd"
        by_cases e : r = 0
        · refine Rd.yes e ?_
          walk_at "rd"
          exact ⟨_, rfl, ⟨by omega, by omega⟩, hT4, b03.trans b4⟩
        · refine Rd.no e ?_
          walk_at "rd"
          exact ⟨_, rfl, ⟨by omega, by omega⟩, hT4, b03.trans b4⟩
      · rintro _ G ⟨tp, rfl, ⟨tb, tz⟩, hT4, b4⟩
        walk_at "rd"
        refine ⟨Nat.le_of_ble_eq_true rfl, Rd.new fun p H5 np gp s5 => ?_⟩
        walk_at "rd"
        refine ⟨t, c, 5, rfl, hT4.same s5, by decide, by decide, fun r H6 r0 r1 hT6 b6 => ?_⟩
        refine pickL (b6 _ _ (hT4.new np).1 gp) r0 (show r < 5 from r1) fun v hv => ?_
        have : ∃ i w : Int, v = .int i ∧ 0 < i ∧ i ≤ 7 ∧ i * w = 42 := by
          rcases List.mem_cons.mp hv with rfl | hv
          · exact ⟨1, 42, rfl, by decide, by decide, by decide⟩
          rcases List.mem_cons.mp hv with rfl | hv
          · exact ⟨1, 42, rfl, by decide, by decide, by decide⟩
          rcases List.mem_cons.mp hv with rfl | hv
          · exact ⟨2, 21, rfl, by decide, by decide, by decide⟩
          rcases List.mem_cons.mp hv with rfl | hv
          · exact ⟨3, 14, rfl, by decide, by decide, by decide⟩
          rcases List.mem_cons.mp hv with rfl | hv
          · exact ⟨7, 6, rfl, by decide, by decide, by decide⟩
          · cases hv
        obtain ⟨m, w, rfl, m0, m1, mw⟩ := this
        walk_at "rd"
        refine ⟨Nat.le_of_ble_eq_true rfl, Rd.new fun p2 H7 np2 gp2 s7 => ?_⟩
        walk_at "rd"
        exact k _ (.rat (Rat.divInt tp m)) _ ⟨p2, tp, m, rfl, gp2, m0, rfl, by omega, by omega⟩ trivial (fz42 m0 mw tb tz) (hT6.same s7) (((b4.same s5).trans b6).same s7)
    | rk n J M z o =>
      obtain ⟨d, rfl, ⟨j, p, hd, hj, hp⟩, r⟩ := id hW
      have zn := r.zn
      have n2 := r.n2
      have n16 := r.n16
      walk_at "rd"
      refine Rd.no Bool.false_ne_true ?_
      walk_at "rd"
      refine hW.eqN ?_
      walk_at "rd"
      refine Rd.no Bool.false_ne_true ?_
      walk_at "rd"
      refine told0 (k := 0) hd rfl ?_
      walk_at "rd"
      refine (hj.any (K := K)).len ?_
      walk_at "rd"
      refine ⟨t, c, _, rfl, hT, by omega, by omega, fun q H1 q0 q1 hT1 b1 => ?_⟩
      have hW1 := hW.tape hT b1
      obtain ⟨_, e1, ⟨j1, p1, hd1, hj1, hp1⟩, _⟩ := id hW1
      cases e1
      walk_at "rd"
      refine told0 (k := 2) hd1 rfl ?_
      walk_at "rd"
      by_cases e : (z : Int) ≤ q
      · rw [decide_eq_true e]
        refine Rd.intB ?_
        walk_at "rd"
        exact k _ (.int (q + 1)) _ rfl ⟨by omega, by omega⟩ ⟨(fun h => by injection h with h; omega), trivial⟩ hT1 b1
      · rw [decide_eq_false e]
        refine Rd.intB ?_
        walk_at "rd"
        exact k _ (.int (q + 0)) _ rfl ⟨by omega, by omega⟩ ⟨(fun h => by injection h with h; omega), trivial⟩ hT1 b1
end
end W

namespace W
open PySem PySem.Spec PyProof.Rows L2
section
variable {P : Program} {w : World} {K : PySem.W.Frag} {mg : Str → Option Value} {base : Heap}
open Mr (Rk joined joined_lt metF leftF rightF topF)
/-! ### tables drawn, tables handed -/
theorem RawI.off {k : Nat} {H G : Hp} {D : Addr} {l : List V} {x : V} {v : Pv} (hD : H D = some (.lst l)) (off : ∀ b, b ≠ D → G b = H b) (h : RawI k H x v) : RawI k G x v := by
  cases v with
  | non => exact h
  | int i => exact h
  | rat r => obtain ⟨a, t, b, e, h, r⟩ := h; exact ⟨a, t, b, e, by rw [off a (ne_of h hD (fun e => nomatch e))]; exact h, r⟩
/-- a row of worths as the law writes them, off t and D -/
def RowR (k : Nat) (t D : Addr) (H : Hp) (x : V) (vs : List Pv) : Prop := ∃ (r : Addr) (ys : List V), x = .ref r ∧ r ≠ t ∧ r ≠ D ∧ H r = some (.lst ys) ∧ Paired (RawI k H) ys vs
theorem RowR.same {k : Nat} {t D : Addr} {H H' : Hp} {x : V} {vs : List Pv} (s : Same H H') (h : RowR k t D H x vs) : RowR k t D H' x vs := let ⟨r, ys, e, n, m, h, p⟩ := h; ⟨r, ys, e, n, m, s _ _ h, paired_map (fun _ _ h => h.same s) p⟩
theorem RowR.tape {k : Nat} {t c D : Addr} {H H' : Hp} {x : V} {vs : List Pv} (ht : Tape H t c) (off : Rd.But t H H') (h : RowR k t D H x vs) : RowR k t D H' x vs := let ⟨r, ys, e, n, m, h, p⟩ := h; ⟨r, ys, e, n, m, off _ _ n h, paired_map (fun _ _ h => h.tape ht off) p⟩
theorem RowR.off {k : Nat} {t D : Addr} {l : List V} {H H' : Hp} {x : V} {vs : List Pv} (hD : H D = some (.lst l)) (off : ∀ b, b ≠ D → H' b = H b) (h : RowR k t D H x vs) : RowR k t D H' x vs := let ⟨r, ys, e, n, m, h, p⟩ := h; ⟨r, ys, e, n, m, by rw [off _ m]; exact h, paired_map (fun _ _ h => h.off hD off) p⟩
theorem RowR.weak {k : Nat} {t D : Addr} {H : Hp} {x : V} {vs : List Pv} (h : RowR k t D H x vs) : RowR k t t H x vs := let ⟨r, ys, e, n, m, h, p⟩ := h; ⟨r, ys, e, n, n, h, p⟩
/-- a list of lists of worths as the law writes them -/
def RawT (k : Nat) (t : Addr) (H : Hp) (a : Addr) (vss : List (List Pv)) : Prop := ∃ xs : List V, H a = some (.lst xs) ∧ a ≠ t ∧ Paired (RowR k t t H) xs vss
theorem RawT.same {k : Nat} {t a : Addr} {H H' : Hp} {vss : List (List Pv)} (s : Same H H') (h : RawT k t H a vss) : RawT k t H' a vss := let ⟨xs, h, n, p⟩ := h; ⟨xs, s _ _ h, n, paired_map (fun _ _ h => h.same s) p⟩
theorem RawT.tape {k : Nat} {t c a : Addr} {H H' : Hp} {vss : List (List Pv)} (ht : Tape H t c) (off : Rd.But t H H') (h : RawT k t H a vss) : RawT k t H' a vss := let ⟨xs, h, n, p⟩ := h; ⟨xs, off _ _ n h, n, paired_map (fun _ _ h => h.tape ht off) p⟩
/-- the same, wherever it lies -/
def RawL (k : Nat) (H : Hp) (a : Addr) (vss : List (List Pv)) : Prop := ∃ xs : List V, H a = some (.lst xs) ∧ Paired (fun x vs => ∃ (r : Addr) (ys : List V), x = .ref r ∧ H r = some (.lst ys) ∧ Paired (RawI k H) ys vs) xs vss
theorem RawT.raw {k t a : Nat} {H : Hp} {vss : List (List Pv)} (h : RawT k t H a vss) : RawL k H a vss := let ⟨xs, h, _, p⟩ := h; ⟨xs, h, paired_map (fun _ _ ⟨r, ys, e, _, _, h, p⟩ => ⟨r, ys, e, h, p⟩) p⟩
theorem RawL.same {k a : Nat} {H H' : Hp} {vss : List (List Pv)} (s : Same H H') (h : RawL k H a vss) : RawL k H' a vss := let ⟨xs, h, p⟩ := h; ⟨xs, s _ _ h, paired_map (fun _ _ ⟨r, ys, e, h, p⟩ => ⟨r, ys, e, s _ _ h, paired_map (fun _ _ h => h.same s) p⟩) p⟩
theorem HdI.off {C : Addr} {H G : Hp} {D : Addr} {l : List V} {x : V} {v : Pv} (hD : H D = some (.lst l)) (off : ∀ b, b ≠ D → G b = H b) (h : HdI C H x v) : HdI C G x v := by
  cases v with
  | non => exact h
  | int i => exact h
  | rat r =>
    rcases (show NumAt C H x r from h) with ⟨b, rfl, dx, e⟩ | ⟨i, rfl, e⟩
    · exact .inl ⟨b, rfl, dx, by rw [off b (ne_of e hD (fun e => nomatch e))]; exact e⟩
    · exact .inr ⟨i, rfl, e⟩
/-- a row of worths as the program writes them -/
def RowH (C : Addr) (H : Hp) (x : V) (vs : List Pv) : Prop := ∃ (r : Addr) (ys : List V), x = .ref r ∧ H r = some (.tup ys) ∧ Paired (HdI C H) ys vs
theorem RowH.same {C : Addr} {H H' : Hp} {x : V} {vs : List Pv} (s : Same H H') (h : RowH C H x vs) : RowH C H' x vs := let ⟨r, ys, e, h, p⟩ := h; ⟨r, ys, e, s _ _ h, paired_map (fun _ _ h => h.same s) p⟩
theorem RowH.tape {C t c : Addr} {H H' : Hp} {x : V} {vs : List Pv} (ht : Tape H t c) (off : Rd.But t H H') (h : RowH C H x vs) : RowH C H' x vs := let ⟨r, ys, e, h, p⟩ := h; ⟨r, ys, e, tup_tape ht off h, paired_map (fun _ _ h => h.tape ht off) p⟩
theorem RowH.off {C D : Addr} {l : List V} {H H' : Hp} {x : V} {vs : List Pv} (hD : H D = some (.lst l)) (off : ∀ b, b ≠ D → H' b = H b) (h : RowH C H x vs) : RowH C H' x vs := let ⟨r, ys, e, h, p⟩ := h; ⟨r, ys, e, by rw [off _ (ne_of h hD (fun e => nomatch e))]; exact h, paired_map (fun _ _ h => h.off hD off) p⟩
/-- a tuple of tuples of worths as the program writes them -/
def HdT (C : Addr) (H : Hp) (a : Addr) (vss : List (List Pv)) : Prop := ∃ xs : List V, H a = some (.tup xs) ∧ Paired (RowH C H) xs vss
theorem HdT.same {C a : Addr} {H H' : Hp} {vss : List (List Pv)} (s : Same H H') (h : HdT C H a vss) : HdT C H' a vss := let ⟨xs, h, p⟩ := h; ⟨xs, s _ _ h, paired_map (fun _ _ h => h.same s) p⟩
theorem HdT.tape {C t c a : Addr} {H H' : Hp} {vss : List (List Pv)} (ht : Tape H t c) (off : Rd.But t H H') (h : HdT C H a vss) : HdT C H' a vss := let ⟨xs, h, p⟩ := h; ⟨xs, tup_tape ht off h, paired_map (fun _ _ h => h.tape ht off) p⟩
/-- n rows of n worths of the world -/
def Wd.table (wd : Wd) (n : Nat) (vss : List (List Pv)) : Prop := vss.length = n ∧ ∀ vs ∈ vss, vs.length = n ∧ ∀ v ∈ vs, wd.has v
theorem rowH_ok {C t : Addr} {H : Hp} {wd : Wd} : ∀ {ys : List V} {vs : List Pv}, Paired (HdI C H) ys vs → (∀ v ∈ vs, wd.has v) → ∃ ws, Paired (WkI C t H) ys ws ∧ ws.all (okW wd) = true
  | _, _, .nil, _ => ⟨[], .nil, rfl⟩
  | _, _, .cons h r, a => let ⟨w, hw, e⟩ := h.ok (t := t) (a _ List.mem_cons_self); let ⟨ws, hr, e2⟩ := rowH_ok r fun v m => a v (List.mem_cons_of_mem _ m); ⟨w :: ws, .cons hw hr, by rw [List.all_cons, e, e2]; rfl⟩
theorem tabH_ok {C t n : Nat} {H : Hp} {wd : Wd} : ∀ {xs : List V} {vss : List (List Pv)}, Paired (RowH C H) xs vss → (∀ vs ∈ vss, vs.length = n ∧ ∀ v ∈ vs, wd.has v) → ∃ rs, Paired (RwI C t H) xs rs ∧ rs.all (Rwk.fits wd n) = true
  | _, _, .nil, _ => ⟨[], .nil, rfl⟩
  | _, _, .cons h r, a => by
    obtain ⟨r0, ys, rfl, hr, p⟩ := h
    obtain ⟨l, av⟩ := a _ List.mem_cons_self
    obtain ⟨ws, hw, e⟩ := rowH_ok (t := t) p av
    obtain ⟨rs, hrs, e2⟩ := tabH_ok r fun v m => a v (List.mem_cons_of_mem _ m)
    refine ⟨.row ws :: rs, .cons ⟨r0, ys, rfl, hr, hw⟩ hrs, ?_⟩
    rw [List.all_cons, e2, show Rwk.fits wd n (.row ws) = (decide (ws.length = n) && ws.all (okW wd)) from rfl, e, decide_eq_true (by rw [← Paired.length hw, Paired.length p, l])]
    rfl
/-- a right table fits -/
theorem HdT.fits {C t a n : Nat} {H : Hp} {wd : Wd} {vss : List (List Pv)} (h : HdT C H a vss) (k : wd.table n vss) : ∃ tk, TbI C t H (.ref a) tk ∧ tk.fits wd n = true := by
  obtain ⟨xs, hx, p⟩ := h
  obtain ⟨l, av⟩ := k
  obtain ⟨rs, hr, e⟩ := tabH_ok (t := t) p av
  refine ⟨.tup rs, ⟨a, xs, rfl, hx, hr⟩, ?_⟩
  show (decide (rs.length = n) && rs.all (Rwk.fits wd n)) = true
  rw [e, decide_eq_true (by rw [← Paired.length hr, Paired.length p, l])]
  rfl
def sp_l_drawn_table (K : PySem.W.Frag) : Sp := fun vs H Q _ => ∃ (t c n : Nat) (x : V) (wd : Wd), vs = [.ref t, x, .int (n : Nat)] ∧ Tape H t c ∧ WoAt H x wd ∧ n ≤ 1000 ∧ ∀ a vss H', RawT 10 t H' a vss → wd.table n vss → Tape H' t c → Rd.But t H H' → Q (.ref a) H'
def sp_l_as_table (K : PySem.W.Frag) (C : Addr) : Sp := fun vs H Q _ => ∃ (x : V) (a n k : Nat) (wd : Wd) (vss : List (List Pv)), vs = [x, .ref a] ∧ WoAt H x wd ∧ RawL k H a vss ∧ wd.table n vss ∧ n ≤ 1000 ∧ k ≤ 9000 ∧ ∀ b H', HdT C H' b vss → Same H H' → Q (.ref b) H'
end
end W

namespace W
open PySem PySem.Spec PyProof.Rows L2
section
variable {P : Program} {w : World} {K : PySem.W.Frag} {mg : Str → Option Value} {base : Heap}
open Mr (Rk joined joined_lt metF leftF rightF topF)
/-! ### worths that a reckoning gave -/
/-- a worth that a reckoning gave -/
def ProI (C : Addr) (H : Hp) (x : V) : Pv → Prop
  | .rat r => ∃ b, x = .ref b ∧ RatAt C H b r
  | v => HdI C H x v
theorem ProI.hd {C : Addr} {H : Hp} {x : V} {v : Pv} (h : ProI C H x v) : HdI C H x v := by
  cases v with
  | rat r => obtain ⟨b, rfl, h⟩ := h; exact h.num
  | non => exact h
  | int i => exact h
theorem ProI.same {C : Addr} {H H' : Hp} {x : V} {v : Pv} (s : Same H H') (h : ProI C H x v) : ProI C H' x v := by
  cases v with
  | rat r => obtain ⟨b, e, h⟩ := h; exact ⟨b, e, h.same s⟩
  | non => exact h
  | int i => exact h
theorem ProI.off {C D : Addr} {l : List V} {H G : Hp} {x : V} {v : Pv} (hD : H D = some (.lst l)) (off : ∀ b, b ≠ D → G b = H b) (h : ProI C H x v) : ProI C G x v := by
  cases v with
  | rat r => obtain ⟨b, e, dx, h⟩ := h; exact ⟨b, e, dx, by rw [off b (ne_of h hD (fun e => nomatch e))]; exact h⟩
  | non => exact h
  | int i => exact h
theorem ReAt.fnone (T : Txt K mg) {H : Hp} {b : Addr} {wd : Wd} {Q : VK} (h : ReAt K T.C_Reckoning T.C_Lengths T.C_Numbers T.C_Ratio H b wd) (k : ∀ x, ProI T.C_Ratio H x wd.noneP → Q x H) : Rd.FldG K "none" (.ref b) H Q := by
  cases wd with
  | len => obtain ⟨dx, e⟩ := h; exact Rd.fld e T.cl_Lengths T.na_Lengths_none rfl (k _ rfl)
  | num => obtain ⟨dx, n, o, e, hn, _⟩ := h; exact Rd.fld e T.cl_Numbers T.na_Numbers_none rfl (k _ ⟨n, rfl, hn⟩)
  | rk n J M z o => obtain ⟨dx, _, _, _, _, _, e, _⟩ := h; exact Rd.fld e T.cl_Reckoning T.na_Reckoning_none rfl (k _ rfl)

end
end W

namespace W
open PySem PySem.Spec PyProof.Rows L2
section
variable {P : Program} {w : World} {K : PySem.W.Frag} {mg : Str → Option Value} {base : Heap}
open Mr (Rk joined joined_lt metF leftF rightF topF)
open Mx (Sz)
set_option exponentiation.threshold 10000
/-! ### sums and products of worths, cells of products -/
def Pv.sz (k : Nat) : Pv → Prop
  | .rat r => Sz k r
  | _ => True
theorem Pv.sz_mono {j k : Nat} {v : Pv} (h : v.sz j) (l : j ≤ k) : v.sz k := by
  cases v with
  | rat r => exact Mx.Sz.mono h l
  | _ => exact trivial
def Wd.join : Wd → Pv → Pv → Pv
  | .len, .non, b => b
  | .len, a, .non => a
  | .len, .int i, .int j => .int (min i j)
  | .num, .rat r, .rat s => .rat (r + s)
  | .rk _ J _ _ _, .int i, .int j => .int (J i.toNat j.toNat : Nat)
  | _, a, _ => a
def Wd.times : Wd → Pv → Pv → Pv
  | .len, .non, _ => .non
  | .len, _, .non => .non
  | .len, .int i, .int j => .int (i + j)
  | .num, .rat r, .rat s => .rat (r * s)
  | .rk _ _ M _ _, .int i, .int j => .int (M i.toNat j.toNat : Nat)
  | _, a, _ => a
def Wd.ok : Wd → Prop
  | .rk n J M z o => Rk n J M z o
  | _ => True
theorem WoAt.ok {H : Hp} {x : V} {wd : Wd} (h : WoAt H x wd) : wd.ok := by
  cases wd with
  | rk n J M z o => obtain ⟨_, _, _, r⟩ := h; exact r
  | _ => exact trivial
theorem Wd.has_none {wd : Wd} (o : wd.ok) : wd.has wd.noneP := by
  cases wd with
  | len => exact trivial
  | num => exact trivial
  | rk n J M z o' => exact ⟨by omega, by have := (show Rk n J M z o' from o).zn; omega⟩
theorem Wd.has_join {wd : Wd} {u v : Pv} (o : wd.ok) (a : wd.has u) (b : wd.has v) : wd.has (wd.join u v) := by
  cases wd with
  | len =>
    cases u with
    | rat r => exact a.elim
    | non => cases v <;> exact b
    | int i =>
      cases v with
      | rat r => exact b.elim
      | non => exact a
      | int j =>
        have ha : 0 ≤ i := a
        have hb : 0 ≤ j := b
        show 0 ≤ min i j
        omega
  | num => cases u <;> cases v <;> first | exact trivial | exact a.elim | exact b.elim
  | rk n J M z o' =>
    have r : Rk n J M z o' := o
    cases u with
    | non => exact a.elim
    | rat r => exact a.elim
    | int i =>
      cases v with
      | non => exact b.elim
      | rat r => exact b.elim
      | int j =>
        have ha : 0 ≤ i ∧ i < (n : Nat) := a
        have hb : 0 ≤ j ∧ j < (n : Nat) := b
        have := r.jn i.toNat j.toNat (by omega) (by omega)
        exact ⟨by omega, by omega⟩
theorem Wd.has_times {wd : Wd} {u v : Pv} (o : wd.ok) (a : wd.has u) (b : wd.has v) : wd.has (wd.times u v) := by
  cases wd with
  | len =>
    cases u with
    | rat r => exact a.elim
    | non => cases v <;> exact a
    | int i =>
      cases v with
      | rat r => exact b.elim
      | non => exact b
      | int j =>
        have ha : 0 ≤ i := a
        have hb : 0 ≤ j := b
        show 0 ≤ i + j
        omega
  | num => cases u <;> cases v <;> first | exact trivial | exact a.elim | exact b.elim
  | rk n J M z o' =>
    have r : Rk n J M z o' := o
    cases u with
    | non => exact a.elim
    | rat r => exact a.elim
    | int i =>
      cases v with
      | non => exact b.elim
      | rat r => exact b.elim
      | int j =>
        have ha : 0 ≤ i ∧ i < (n : Nat) := a
        have hb : 0 ≤ j ∧ j < (n : Nat) := b
        have := r.mn i.toNat j.toNat (by omega) (by omega)
        exact ⟨by omega, by omega⟩
theorem Wd.sz_join {wd : Wd} {u v : Pv} {j k : Nat} (a : u.sz j) (b : v.sz k) : (wd.join u v).sz (j + k + 1) := by
  cases wd <;> cases u <;> cases v <;> first | exact trivial | exact Mx.Sz.add a b | exact Pv.sz_mono (v := .rat _) a (by omega) | exact Pv.sz_mono (v := .rat _) b (by omega)
theorem Wd.sz_times {wd : Wd} {u v : Pv} {j k : Nat} (a : u.sz j) (b : v.sz k) : (wd.times u v).sz (j + k) := by
  cases wd <;> cases u <;> cases v <;> first | exact trivial | exact Mx.Sz.mul a b | exact Pv.sz_mono (v := .rat _) a (by omega) | exact Pv.sz_mono (v := .rat _) b (by omega)
theorem Wd.sz_none {wd : Wd} : wd.noneP.sz 1 := by
  cases wd with
  | num => exact ⟨by decide, by decide⟩
  | _ => exact trivial
/-- row r and column q of the product, the first i places -/
def Wd.cellTo (wd : Wd) (us : List Pv) (vss : List (List Pv)) (q : Nat) : Nat → Pv
  | 0 => wd.noneP
  | i + 1 => wd.join (wd.cellTo us vss q i) (wd.times (us.getD i .non) ((vss.getD i []).getD q .non))
def Wd.cell (wd : Wd) (us : List Pv) (vss : List (List Pv)) (q : Nat) : Pv := wd.cellTo us vss q us.length
/-- the product -/
def Wd.prod (wd : Wd) (uss vss : List (List Pv)) : List (List Pv) := uss.map fun us => (List.range vss.length).map fun q => wd.cell us vss q
theorem getD_of {α : Type} {xs : List α} {i : Nat} {x d : α} (h : xs[i]? = some x) : xs.getD i d = x := by rw [List.getD_eq_getElem?_getD, h]; rfl
def sp_cell_of (K : PySem.W.Frag) (CK CL CN CT CR CB CM : Addr) : Sp := fun vs H Q _ => ∃ (b r a q : Nat) (ys : List V) (us : List Pv) (vss : List (List Pv)) (wd : Wd), vs = [.ref b, .ref r, .ref a, .int (q : Nat)] ∧ ReAt K CK CL CN CR H b wd ∧ wd.ok ∧ H r = some (.tup ys) ∧ Paired (HdI CR H) ys us ∧ (∀ u ∈ us, wd.has u ∧ u.sz 4000) ∧
  HdT CR H a vss ∧ vss.length = us.length ∧ (∀ vs ∈ vss, vs.length = us.length ∧ ∀ v ∈ vs, wd.has v ∧ v.sz 4000) ∧ q < us.length ∧ us.length ≤ 1000 ∧ (∀ i, i < us.length → (wd.times (us.getD i .non) ((vss.getD i []).getD q .non)).sz 4000 ∧ (wd.cellTo us vss q i).sz 4000) ∧ ∀ z H', ProI CR H' z (wd.cell us vss q) → Same H H' → Q z H'
theorem Chk.both {CW : Addr} {H : Hp} {E : XK} {x y : V} {bx by_ : Bool} {k : Prop} (e1 : bx = true) (e2 : by_ = true) (h : k) : Chk CW H E x y bx by_ k :=
  ⟨fun e => (by rw [e1] at e; cases e), fun _ e => (by rw [e2] at e; cases e), fun _ _ => h⟩
theorem len_is {C : Addr} {H : Hp} {x : V} {u : Pv} (h : HdI C H x u) (a : Wd.len.has u) : ∃ k, Rx.Is H x k ∧ okL k = true := by
  cases u with
  | non => obtain rfl : x = .non := h; exact ⟨_, .non, rfl⟩
  | int i => obtain rfl : x = .int i := h; exact ⟨_, .int i, decide_eq_true (show (0 : Int) ≤ i from a)⟩
  | rat r => exact a.elim
theorem len_times {C CL CW b : Addr} {H : Hp} {x y : V} {u v : Pv} {Q : VK} {E : XK} (hb : LenAt CL H b) (hx : HdI C H x u) (hy : HdI C H y v) (a : Wd.len.has u) (a2 : Wd.len.has v) (q : ∀ z H', ProI C H' z (Wd.len.times u v) → Same H H' → Q z H') : sp_Lengths_times K CL CW [.ref b, x, y] H Q E := by
  obtain ⟨kx, ix, ex⟩ := len_is hx a
  obtain ⟨ky, iy, ey⟩ := len_is hy a2
  refine ⟨b, x, y, kx, ky, rfl, hb, ix, iy, Chk.both ex ey fun H' s => q _ H' ?_ s⟩
  cases u with
  | rat r => exact a.elim
  | non => obtain rfl : x = .non := hx; rfl
  | int i =>
    obtain rfl : x = .int i := hx
    cases v with
    | rat r => exact a2.elim
    | non => obtain rfl : y = .non := hy; rfl
    | int j => obtain rfl : y = .int j := hy; rfl
theorem len_join {C CL CW b : Addr} {H : Hp} {x y : V} {u v : Pv} {Q : VK} {E : XK} (hb : LenAt CL H b) (hx : HdI C H x u) (hy : HdI C H y v) (a : Wd.len.has u) (a2 : Wd.len.has v) (q : ∀ z H', ProI C H' z (Wd.len.join u v) → Same H H' → Q z H') : sp_Lengths_join K CL CW [.ref b, x, y] H Q E := by
  obtain ⟨kx, ix, ex⟩ := len_is hx a
  obtain ⟨ky, iy, ey⟩ := len_is hy a2
  refine ⟨b, x, y, kx, ky, rfl, hb, ix, iy, Chk.both ex ey fun H' s => q _ H' ?_ s⟩
  cases u with
  | rat r => exact a.elim
  | non =>
    obtain rfl : x = .non := hx
    cases v with
    | rat r => exact a2.elim
    | non => obtain rfl : y = .non := hy; rfl
    | int j => obtain rfl : y = .int j := hy; rfl
  | int i =>
    obtain rfl : x = .int i := hx
    cases v with
    | rat r => exact a2.elim
    | non => obtain rfl : y = .non := hy; rfl
    | int j => obtain rfl : y = .int j := hy; rfl
theorem num_is {C : Addr} {H : Hp} {x : V} {u : Pv} {k : Nat} (h : HdI C H x u) (a : Wd.num.has u) (z : u.sz k) : ∃ r, u = .rat r ∧ NumAt C H x r ∧ Sz k r := by
  cases u with
  | rat r => exact ⟨r, rfl, h, z⟩
  | non => exact a.elim
  | int i => exact a.elim
theorem num_times {C CN CW b : Addr} {H : Hp} {x y : V} {u v : Pv} {Q : VK} {E : XK} (hb : NumsAt CN C H b) (hx : HdI C H x u) (hy : HdI C H y v) (a : Wd.num.has u) (a2 : Wd.num.has v) (z1 : u.sz 4000) (z2 : v.sz 4000) (q : ∀ z H', ProI C H' z (Wd.num.times u v) → Same H H' → Q z H') : sp_Numbers_times K CN C CW [.ref b, x, y] H Q E := by
  obtain ⟨r, rfl, hr, zr⟩ := num_is hx a z1
  obtain ⟨s, rfl, hs, zs⟩ := num_is hy a2 z2
  exact ⟨b, x, y, rfl, hb, .inl ⟨r, s, hr, hs, zr, zs, fun p H' hp s => q _ H' ⟨p, rfl, hp⟩ s⟩⟩
theorem num_join {C CN CW b : Addr} {H : Hp} {x y : V} {u v : Pv} {Q : VK} {E : XK} (hb : NumsAt CN C H b) (hx : HdI C H x u) (hy : HdI C H y v) (a : Wd.num.has u) (a2 : Wd.num.has v) (z1 : u.sz 4000) (z2 : v.sz 4000) (q : ∀ z H', ProI C H' z (Wd.num.join u v) → Same H H' → Q z H') : sp_Numbers_join K CN C CW [.ref b, x, y] H Q E := by
  obtain ⟨r, rfl, hr, zr⟩ := num_is hx a z1
  obtain ⟨s, rfl, hs, zs⟩ := num_is hy a2 z2
  exact ⟨b, x, y, rfl, hb, .inl ⟨r, s, hr, hs, zr, zs, fun p H' hp s => q _ H' ⟨p, rfl, hp⟩ s⟩⟩
theorem rk_is {C : Addr} {H : Hp} {x : V} {u : Pv} {n z o : Nat} {J M : Nat → Nat → Nat} (h : HdI C H x u) (a : (Wd.rk n J M z o).has u) : ∃ i : Nat, u = .int (i : Nat) ∧ x = .int (i : Nat) ∧ i < n := by
  cases u with
  | rat r => exact a.elim
  | non => exact a.elim
  | int i =>
    obtain rfl : x = .int i := h
    have ha : 0 ≤ i ∧ i < (n : Nat) := a
    exact ⟨i.toNat, by rw [Int.toNat_of_nonneg ha.1], by rw [Int.toNat_of_nonneg ha.1], by omega⟩
theorem okR_nat {n i : Nat} (h : i < n) : okR n (.int (i : Nat)) = true := by
  rw [okR_int, decide_eq_true (by omega), decide_eq_true (by omega)]
  rfl
theorem rk_times {C CK CW b : Addr} {H : Hp} {x y : V} {u v : Pv} {n z o : Nat} {J M : Nat → Nat → Nat} {Q : VK} {E : XK} (hb : RkAt K CK H b n J M z o) (hx : HdI C H x u) (hy : HdI C H y v) (a : (Wd.rk n J M z o).has u) (a2 : (Wd.rk n J M z o).has v) (q : ∀ w H', ProI C H' w ((Wd.rk n J M z o).times u v) → Same H H' → Q w H') : sp_Reckoning_times K CK CW [.ref b, x, y] H Q E := by
  obtain ⟨i, rfl, rfl, il⟩ := rk_is hx a
  obtain ⟨j, rfl, rfl, jl⟩ := rk_is hy a2
  refine ⟨b, n, z, o, _, _, _, _, J, M, rfl, hb, .int _, .int _, Chk.both (okR_nat il) (okR_nat jl) fun u w e1 e2 _ _ H' s => q _ H' ?_ s⟩
  obtain rfl : i = u := by injection e1 with e; exact Int.ofNat.inj e
  obtain rfl : j = w := by injection e2 with e; exact Int.ofNat.inj e
  rfl
theorem rk_join {C CK CW b : Addr} {H : Hp} {x y : V} {u v : Pv} {n z o : Nat} {J M : Nat → Nat → Nat} {Q : VK} {E : XK} (hb : RkAt K CK H b n J M z o) (hx : HdI C H x u) (hy : HdI C H y v) (a : (Wd.rk n J M z o).has u) (a2 : (Wd.rk n J M z o).has v) (q : ∀ w H', ProI C H' w ((Wd.rk n J M z o).join u v) → Same H H' → Q w H') : sp_Reckoning_join K CK CW [.ref b, x, y] H Q E := by
  obtain ⟨i, rfl, rfl, il⟩ := rk_is hx a
  obtain ⟨j, rfl, rfl, jl⟩ := rk_is hy a2
  refine ⟨b, n, z, o, _, _, _, _, J, M, rfl, hb, .int _, .int _, Chk.both (okR_nat il) (okR_nat jl) fun u w e1 e2 _ _ H' s => q _ H' ?_ s⟩
  obtain rfl : i = u := by injection e1 with e; exact Int.ofNat.inj e
  obtain rfl : j = w := by injection e2 with e; exact Int.ofNat.inj e
  rfl
end
end W

namespace W
open PySem PySem.Spec PyProof.Rows L2
section
variable {P : Program} {w : World} {K : PySem.W.Frag} {mg : Str → Option Value} {base : Heap}
open Mr (Rk joined joined_lt metF leftF rightF topF)
open Mx (Sz)
/-! ### products of tables -/
def RowP (C : Addr) (H : Hp) (x : V) (vs : List Pv) : Prop := ∃ (r : Addr) (ys : List V), x = .ref r ∧ H r = some (.tup ys) ∧ Paired (ProI C H) ys vs
theorem RowP.same {C : Addr} {H H' : Hp} {x : V} {vs : List Pv} (s : Same H H') (h : RowP C H x vs) : RowP C H' x vs := let ⟨r, ys, e, h, p⟩ := h; ⟨r, ys, e, s _ _ h, paired_map (fun _ _ h => h.same s) p⟩
theorem RowP.off {C D : Addr} {l : List V} {H H' : Hp} {x : V} {vs : List Pv} (hD : H D = some (.lst l)) (off : ∀ b, b ≠ D → H' b = H b) (h : RowP C H x vs) : RowP C H' x vs := let ⟨r, ys, e, h, p⟩ := h; ⟨r, ys, e, by rw [off _ (ne_of h hD (fun e => nomatch e))]; exact h, paired_map (fun _ _ h => h.off hD off) p⟩
/-- a table that a reckoning gave -/
def ProT (C : Addr) (H : Hp) (a : Addr) (vss : List (List Pv)) : Prop := ∃ xs : List V, H a = some (.tup xs) ∧ Paired (RowP C H) xs vss
theorem ProT.same {C a : Addr} {H H' : Hp} {vss : List (List Pv)} (s : Same H H') (h : ProT C H a vss) : ProT C H' a vss := let ⟨xs, h, p⟩ := h; ⟨xs, s _ _ h, paired_map (fun _ _ h => h.same s) p⟩
theorem ProT.hd {C a : Addr} {H : Hp} {vss : List (List Pv)} (h : ProT C H a vss) : HdT C H a vss := let ⟨xs, h, p⟩ := h; ⟨xs, h, paired_map (fun _ _ ⟨r, ys, e, h, p⟩ => ⟨r, ys, e, h, paired_map (fun _ _ h => h.hd) p⟩) p⟩
/-- a table of worths of k bits at most -/
def Wd.tableS (wd : Wd) (n k : Nat) (vss : List (List Pv)) : Prop := vss.length = n ∧ ∀ vs ∈ vss, vs.length = n ∧ ∀ v ∈ vs, wd.has v ∧ v.sz k
theorem Wd.tableS.tab {wd : Wd} {n k : Nat} {vss : List (List Pv)} (h : wd.tableS n k vss) : wd.table n vss := ⟨h.1, fun vs m => ⟨(h.2 vs m).1, fun v m2 => ((h.2 vs m).2 v m2).1⟩⟩
theorem Wd.cellTo_has {wd : Wd} {n q : Nat} {us : List Pv} {vss : List (List Pv)} (o : wd.ok) (ul : us.length = n) (ua : ∀ u ∈ us, wd.has u) (tv : wd.table n vss) (hq : q < n) : ∀ i, i ≤ n → wd.has (wd.cellTo us vss q i) ∧ (i < n → wd.has (wd.times (us.getD i .non) ((vss.getD i []).getD q .non)))
  | i, hi => by
    have tm : i < n → wd.has (wd.times (us.getD i .non) ((vss.getD i []).getD q .non)) := fun lt => by
      obtain ⟨u, hu⟩ : ∃ u, us[i]? = some u := ⟨_, List.getElem?_eq_getElem (by omega)⟩
      obtain ⟨vs, hvs⟩ : ∃ vs, vss[i]? = some vs := ⟨_, List.getElem?_eq_getElem (by rw [tv.1]; omega)⟩
      obtain ⟨vl, va⟩ := tv.2 vs (List.mem_of_getElem? hvs)
      obtain ⟨v, hv⟩ : ∃ v, vs[q]? = some v := ⟨_, List.getElem?_eq_getElem (by omega)⟩
      rw [getD_of hu, getD_of hvs, getD_of hv]
      exact Wd.has_times o (ua u (List.mem_of_getElem? hu)) (va v (List.mem_of_getElem? hv))
    refine ⟨?_, tm⟩
    cases i with
    | zero => exact Wd.has_none o
    | succ j =>
      have ih := Wd.cellTo_has o ul ua tv hq j (by omega)
      exact Wd.has_join o ih.1 (ih.2 (by omega))
theorem Wd.prod_tab {wd : Wd} {n : Nat} {uss vss : List (List Pv)} (o : wd.ok) (tu : wd.table n uss) (tv : wd.table n vss) : wd.table n (wd.prod uss vss) := by
  refine ⟨by show (uss.map _).length = n; rw [List.length_map, tu.1], fun ws m => ?_⟩
  obtain ⟨us, mu, rfl⟩ := List.mem_map.mp (show ws ∈ uss.map _ from m)
  obtain ⟨ul, ua⟩ := tu.2 us mu
  refine ⟨by rw [List.length_map, List.length_range, tv.1], fun v mv => ?_⟩
  obtain ⟨q, mq, rfl⟩ := List.mem_map.mp mv
  rw [List.mem_range, tv.1] at mq
  have := (Wd.cellTo_has o ul ua tv mq n (Nat.le_refl n)).1
  unfold Wd.cell
  rw [ul]
  exact this
theorem Wd.tableS.mono {wd : Wd} {n j k : Nat} {vss : List (List Pv)} (h : wd.tableS n j vss) (l : j ≤ k) : wd.tableS n k vss := ⟨h.1, fun vs m => ⟨(h.2 vs m).1, fun v m2 => ⟨((h.2 vs m).2 v m2).1, Pv.sz_mono ((h.2 vs m).2 v m2).2 l⟩⟩⟩
theorem Wd.cellTo_sz {wd : Wd} {n k1 k2 q : Nat} {us : List Pv} {vss : List (List Pv)} (o : wd.ok) (ul : us.length = n) (ua : ∀ u ∈ us, wd.has u ∧ u.sz k1) (tv : wd.tableS n k2 vss) (hq : q < n) : ∀ i, i ≤ n → wd.has (wd.cellTo us vss q i) ∧ (wd.cellTo us vss q i).sz ((k1 + k2 + 1) * i + 1)
  | 0, _ => ⟨Wd.has_none o, by rw [Nat.mul_zero, Nat.zero_add]; exact Wd.sz_none⟩
  | i + 1, hi => by
    obtain ⟨h1, h2⟩ := Wd.cellTo_sz o ul ua tv hq i (by omega)
    obtain ⟨u, hu⟩ : ∃ u, us[i]? = some u := ⟨_, List.getElem?_eq_getElem (by omega)⟩
    obtain ⟨vs, hvs⟩ : ∃ vs, vss[i]? = some vs := ⟨_, List.getElem?_eq_getElem (by rw [tv.1]; omega)⟩
    obtain ⟨vl, va⟩ := tv.2 vs (List.mem_of_getElem? hvs)
    obtain ⟨v, hv⟩ : ∃ v, vs[q]? = some v := ⟨_, List.getElem?_eq_getElem (by omega)⟩
    obtain ⟨u1, u2⟩ := ua u (List.mem_of_getElem? hu)
    obtain ⟨v1, v2⟩ := va v (List.mem_of_getElem? hv)
    show wd.has (wd.join _ (wd.times (us.getD i .non) ((vss.getD i []).getD q .non))) ∧ (wd.join _ (wd.times (us.getD i .non) ((vss.getD i []).getD q .non))).sz _
    rw [getD_of hu, getD_of hvs, getD_of hv]
    refine ⟨Wd.has_join o h1 (Wd.has_times o u1 v1), Pv.sz_mono (Wd.sz_join h2 (Wd.sz_times u2 v2)) ?_⟩
    rw [Nat.mul_succ]
    omega
/-- no number on the way to a product is too long -/
def Fit (wd : Wd) (n : Nat) (uss vss : List (List Pv)) : Prop := ∀ us ∈ uss, ∀ q, q < n → ∀ i, i < n → (wd.times (us.getD i .non) ((vss.getD i []).getD q .non)).sz 4000 ∧ (wd.cellTo us vss q i).sz 4000
theorem Fit.of {wd : Wd} {n k1 k2 : Nat} {uss vss : List (List Pv)} (o : wd.ok) (tu : wd.tableS n k1 uss) (tv : wd.tableS n k2 vss) (h : (k1 + k2 + 1) * n + 1 ≤ 4000) : Fit wd n uss vss := fun us mu q hq i hi => by
  obtain ⟨ul, ua⟩ := tu.2 us mu
  have m : (k1 + k2 + 1) * i ≤ (k1 + k2 + 1) * n := Nat.mul_le_mul_left _ (Nat.le_of_lt hi)
  have m1 : k1 + k2 + 1 ≤ (k1 + k2 + 1) * n := Nat.le_mul_of_pos_right _ (by omega)
  refine ⟨?_, Pv.sz_mono (Wd.cellTo_sz o ul ua tv hq i (Nat.le_of_lt hi)).2 (by omega)⟩
  obtain ⟨u, hu⟩ : ∃ u, us[i]? = some u := ⟨_, List.getElem?_eq_getElem (by omega)⟩
  obtain ⟨vs, hvs⟩ : ∃ vs, vss[i]? = some vs := ⟨_, List.getElem?_eq_getElem (by rw [tv.1]; exact hi)⟩
  obtain ⟨vl, va⟩ := tv.2 vs (List.mem_of_getElem? hvs)
  obtain ⟨v, hv⟩ : ∃ v, vs[q]? = some v := ⟨_, List.getElem?_eq_getElem (by omega)⟩
  rw [getD_of hu, getD_of hvs, getD_of hv]
  exact Pv.sz_mono (Wd.sz_times (ua u (List.mem_of_getElem? hu)).2 (va v (List.mem_of_getElem? hv)).2) (by omega)
def sp_multiplied (K : PySem.W.Frag) (CK CL CN CT CR CB CM : Addr) : Sp := fun vs H Q _ => ∃ (b a c n : Nat) (uss vss : List (List Pv)) (wd : Wd), vs = [.ref b, .ref a, .ref c] ∧ ReAt K CK CL CN CR H b wd ∧ wd.ok ∧ HdT CR H a uss ∧ wd.tableS n 4000 uss ∧ HdT CR H c vss ∧ wd.tableS n 4000 vss ∧ n ≤ 1000 ∧ Fit wd n uss vss ∧ ∀ p H', ProT CR H' p (wd.prod uss vss) → Same H H' → Q (.ref p) H'
/-- how many places a table has, or 0 -/
def Tbk.size (wd : Wd) : Tbk → Nat
  | .no => 0
  | .tup rs => if 1 ≤ rs.length ∧ rs.length ≤ 10 ∧ (Tbk.tup rs).fits wd rs.length = true then rs.length else 0
def sp_size_of (K : PySem.W.Frag) (CK CL CN CT CR CB CM : Addr) : Sp := fun vs H Q _ => ∃ (b t : Nat) (x : V) (wd : Wd) (tk : Tbk), vs = [.ref b, x] ∧ ReAt K CK CL CN CR H b wd ∧ TbI CR t H x tk ∧ ∀ H', Same H H' → Q (.int (tk.size wd : Nat)) H'
def sp_product (K : PySem.W.Frag) (CK CL CN CT CR CB CM : Addr) : Sp := fun vs H Q E => ∃ (x y z : V), vs = [x, y, z] ∧
  ((∃ (b a c n : Nat) (uss vss : List (List Pv)) (wd : Wd), x = .ref b ∧ y = .ref a ∧ z = .ref c ∧ ReAt K CK CL CN CR H b wd ∧ wd.ok ∧ HdT CR H a uss ∧ wd.tableS n 4000 uss ∧ HdT CR H c vss ∧ wd.tableS n 4000 vss ∧ 1 ≤ n ∧ n ≤ 10 ∧ Fit wd n uss vss ∧ ∀ p H', ProT CR H' p (wd.prod uss vss) → Same H H' → Q (.ref p) H') ∨
   (∃ (b t : Nat) (wd : Wd) (tk : Tbk), x = .ref b ∧ ReAt K CK CL CN CR H b wd ∧ TbI CR t H y tk ∧ tk.size wd = 0 ∧ Rx.Raised CM y H E) ∨
   (∃ (b a n t t2 : Nat) (uss : List (List Pv)) (wd : Wd) (tk2 : Tbk), x = .ref b ∧ y = .ref a ∧ ReAt K CK CL CN CR H b wd ∧ HdT CR H a uss ∧ wd.table n uss ∧ 1 ≤ n ∧ n ≤ 10 ∧ TbI CR t2 H z tk2 ∧ tk2.size wd ≠ n ∧ Rx.Raised CM z H E) ∨
   (NoRe K H x ∧ Rx.Raised CB x H E))
/-- a right table's size -/
theorem HdT.size {C t a n : Nat} {H : Hp} {wd : Wd} {vss : List (List Pv)} (h : HdT C H a vss) (k : wd.table n vss) (n1 : 1 ≤ n) (n10 : n ≤ 10) : ∃ tk, TbI C t H (.ref a) tk ∧ tk.size wd = n := by
  obtain ⟨xs, hx, p⟩ := id h
  obtain ⟨tk, ht, f⟩ := h.fits (t := t) k
  refine ⟨tk, ht, ?_⟩
  cases tk with
  | no => cases f
  | tup rs =>
    obtain ⟨a', xs', e, hx', pr⟩ := ht
    have : rs.length = n := by
      rw [show (Tbk.tup rs).fits wd n = (decide (rs.length = n) && rs.all (Rwk.fits wd n)) from rfl, Bool.and_eq_true] at f
      exact of_decide_eq_true f.1
    show (if 1 ≤ rs.length ∧ rs.length ≤ 10 ∧ (Tbk.tup rs).fits wd rs.length = true then rs.length else 0) = n
    rw [if_pos ⟨by omega, by omega, by rw [this]; exact f⟩, this]
theorem rg_len (n : Nat) : (((List.range n).map fun i : Nat => (i : Int)).map V.int).length = n := by rw [List.length_map, List.length_map, List.length_range]
theorem rg_at {n j : Nat} {z : V} (h : (((List.range n).map fun i : Nat => (i : Int)).map V.int)[j]? = some z) : z = .int (j : Nat) := by
  have l : j < n := by
    have := (List.getElem?_eq_some_iff.mp h).1
    rwa [rg_len] at this
  rw [List.getElem?_map, List.getElem?_map, List.getElem?_range l] at h
  exact (Option.some.inj h).symm
end
end W

namespace W
open PySem PySem.Spec PyProof.Rows L2
section
variable {P : Program} {w : World} {K : PySem.W.Frag} {mg : Str → Option Value} {base : Heap}
open Mr (Rk joined joined_lt metF leftF rightF topF)
open Mx (Sz)
set_option exponentiation.threshold 10000
/-! ### the law's own sums and products of worths -/
def Wd.oneP : Wd → Pv
  | .len => .int 0
  | .num => .rat 1
  | .rk _ _ _ _ o => .int (o : Nat)
theorem Wd.has_one {wd : Wd} (o : wd.ok) : wd.has wd.oneP := by
  cases wd with
  | len => exact Int.le_refl 0
  | num => exact trivial
  | rk n J M z o' => exact ⟨by omega, by have := (show Rk n J M z o' from o).on; omega⟩
def sp_l_one (K : PySem.W.Frag) : Sp := fun vs H Q _ => ∃ (x : V) (wd : Wd), vs = [x] ∧ WoAt H x wd ∧ ∀ y H', RawI 10 H' y wd.oneP → Same H H' → Q y H'
def RawOp (f : Wd → Pv → Pv → Pv) (m : Nat) (K : PySem.W.Frag) : Sp := fun vs H Q _ => ∃ (x y z : V) (wd : Wd) (u v : Pv) (k1 k2 : Nat), vs = [x, y, z] ∧ WoAt H x wd ∧ wd.has u ∧ wd.has v ∧ RawI k1 H y u ∧ RawI k2 H z v ∧ k1 + k2 ≤ 400000 ∧ ∀ w H', RawI (k1 + k2 + m) H' w (f wd u v) → Same H H' → Q w H'
def sp_l_join (K : PySem.W.Frag) : Sp := RawOp Wd.join 1 K
def sp_l_times (K : PySem.W.Frag) : Sp := RawOp Wd.times 0 K
def sp_l_is_worth (K : PySem.W.Frag) (C : Addr) : Sp := fun vs H Q _ => ∃ (x y z : V) (wd : Wd) (v : Pv) (k : Nat), vs = [x, y, z] ∧ WoAt H x wd ∧ wd.has v ∧ ProI C H y v ∧ RawI k H z v ∧ k ≤ 400000 ∧ v.sz 3000 ∧ Q (.bl true) H
theorem bits_pos {b : Int} {k : Nat} (b0 : 0 < b) (h : b.natAbs < 2 ^ k) : 0 < k := by
  rcases Nat.eq_zero_or_pos k with e | e
  · rw [e] at h
    have : b.natAbs < 1 := h
    omega
  · exact e
theorem raw_rk {k : Nat} {H : Hp} {x : V} {u : Pv} {n z o : Nat} {J M : Nat → Nat → Nat} (h : RawI k H x u) (a : (Wd.rk n J M z o).has u) : ∃ i : Nat, u = .int (i : Nat) ∧ x = .int (i : Nat) ∧ i < n := by
  cases u with
  | rat r => exact a.elim
  | non => exact a.elim
  | int i =>
    obtain rfl : x = .int i := h
    have ha : 0 ≤ i ∧ i < (n : Nat) := a
    exact ⟨i.toNat, by rw [Int.toNat_of_nonneg ha.1], by rw [Int.toNat_of_nonneg ha.1], by omega⟩
theorem ok_l_is_worth (T : Txt K mg) : FnOk P w K mg base CX0 1 T.f_l_is_worth T.fd_l_is_worth ["_law_world_here", "_law_told", "_law_due"] (sp_l_is_worth K T.C_Ratio) := by
  refine T.F_l_is_worth.ok sc_l_is_worth (fun vs H Q E h => ?_) (fun cdv A outer s H vs Q E hr h => ?_)
  · obtain ⟨x, y, z, wd, v, m, rfl, _⟩ := h
    rfl
  · obtain ⟨x, y, z, wd, v, m, rfl, hW, hv, hy, hz, m3, vz, k⟩ := h
    refine ⟨_, (pss_cons (ps_if (pt_cmpR (r := Be.rEqZ) (Be.op_eqZ hr.units) (pv 0) pe_str (nomark _))
  (pss_one (ps_ret (pe_and (pe_callB (id := "isinstance") (r := rIsi K) call_isi (by rfl) T.n_isinstance (by decide +kernel) (pa_cons (pv 1) (pa_cons (pe_glob (v := .ref T.C_Ratio) rfl T.c_Ratio rfl) pa_nil))) (pe_and (pe_cmpR op_gt (pe_fld (pv 1) rfl) pe_int (nomark _)) (pe_one (pe_cmpR op_eq (pe_op op_mulW (pe_fld (pv 1) rfl) (pe_ix (r := rIxT K) ix_tup (pv 2) pe_int (fun _ _ => rfl))) (pe_op op_mulW (pe_ix (r := rIxT K) ix_tup (pv 2) pe_int (fun _ _ => rfl)) (pe_fld (pv 1) rfl)) (nomark _)))))))
  pss_nil)
  (pss_cons (ps_if (PW.pt (pw_or (pt_cmpR op_isN (pv 1) pe_non (nomark _)) (pw_or1 (pt_cmpR op_isN (pv 2) pe_non (nomark _)))))
  (pss_one (ps_ret (pe_and (pe_cmpR op_isN (pv 1) pe_non (nomark _)) (pe_one (pe_cmpR op_isN (pv 2) pe_non (nomark _))))))
  pss_nil)
  (pss_one (ps_ret (pe_and (pe_callB (id := "isinstance") (r := rIsi K) call_isi (by rfl) T.n_isinstance (by decide +kernel) (pa_cons (pv 1) (pa_cons (pe_bltn (v := .ty "int") (u := .type "int") (by rfl) T.n_int (by decide +kernel) rfl) pa_nil))) (pe_and (pe_not (pe_callB (id := "isinstance") (r := rIsi K) call_isi (by rfl) T.n_isinstance (by decide +kernel) (pa_cons (pv 1) (pa_cons (pe_bltn (v := .ty "bool") (u := .type "bool") (by rfl) T.n_bool (by decide +kernel) rfl) pa_nil)))) (pe_one (pe_cmpR (r := rEq) op_eq (pv 1) (pv 2) (nomark _))))))))), ?_⟩
    walk_at "rd"
    refine hW.eqN ?_
    cases wd with
    | num =>
      walk_at "rd"
      refine Rd.yes rfl ?_
      walk_at "rd"
      cases v with
      | non => exact hv.elim
      | int i => exact hv.elim
      | rat r =>
      obtain ⟨b, rfl, hR⟩ := hy
      obtain ⟨a, t, u, rfl, ha, u0, e, zt, zu⟩ := hz
      have zr : Sz 3000 r := vz
      have zt3 : t.natAbs < 2 ^ 400000 := Nat.lt_of_lt_of_le zt (Nat.pow_le_pow_right (by decide) m3)
      have zu3 : u.natAbs < 2 ^ 400000 := Nat.lt_of_lt_of_le zu (Nat.pow_le_pow_right (by decide) m3)
      refine hR.ask T ?_
      walk_at "rd"
      refine hR.fbot T ?_
      walk_at "rd"
      have d0 := r.den_pos
      refine Rd.yes (by omega) ?_
      walk_at "rd"
      refine hR.ftop T ?_
      walk_at "rd"
      refine Rd.ixT (.of ha) (atI_nat (j := 1) rfl) ?_
      walk_at "rd"
      refine Rd.iC (wide_mul (a := 3000) (b := 400000) zr.1 zu3 (by decide) (by decide) (by decide)) ?_
      walk_at "rd"
      refine Rd.ixT (.of ha) (atI_nat (j := 0) rfl) ?_
      walk_at "rd"
      refine hR.fbot T ?_
      walk_at "rd"
      refine Rd.iC (wide_mul (a := 400000) (b := 3000) zt3 zr.2 (by decide) (by decide) (by decide)) ?_
      walk_at "rd"
      rw [decide_eq_true ((Mx.same_of (by omega)).mpr e)]
      exact k
    | len =>
      walk_at "rd"
      refine Rd.no Bool.false_ne_true ?_
      walk_at "rd"
      refine ⟨rfl, ?_⟩
      cases v with
      | rat r => exact hv.elim
      | non =>
        obtain rfl : y = .non := hy
        obtain rfl : z = .non := hz
        walk_at "rd"
        refine Rd.yes rfl ?_
        walk_at "rd"
        refine ⟨rfl, ?_⟩
        walk_at "rd"
        refine Rd.yes rfl ?_
        walk_at "rd"
        exact ⟨rfl, k⟩
      | int i =>
        obtain rfl : y = .int i := hy
        obtain rfl : z = .int i := hz
        walk_at "rd"
        refine Rd.no (fun e => nomatch e) ?_
        walk_at "rd"
        refine ⟨rfl, ?_⟩
        walk_at "rd"
        refine Rd.no (fun e => nomatch e) ?_
        walk_at "rd"
        refine Rx.askInt (.int i) ?_
        walk_at "rd"
        refine Rd.yes rfl ?_
        walk_at "rd"
        refine Rx.askBl (.int i) ?_
        walk_at "rd"
        refine Rd.no Bool.false_ne_true ?_
        walk_at "rd"
        rw [decide_eq_true rfl]
        exact k
    | rk n J M z' o =>
      walk_at "rd"
      refine Rd.no Bool.false_ne_true ?_
      walk_at "rd"
      refine ⟨rfl, ?_⟩
      cases v with
      | rat r => exact hv.elim
      | non =>
        obtain rfl : y = .non := hy
        obtain rfl : z = .non := hz
        walk_at "rd"
        refine Rd.yes rfl ?_
        walk_at "rd"
        refine ⟨rfl, ?_⟩
        walk_at "rd"
        refine Rd.yes rfl ?_
        walk_at "rd"
        exact ⟨rfl, k⟩
      | int i =>
        obtain rfl : y = .int i := hy
        obtain rfl : z = .int i := hz
        walk_at "rd"
        refine Rd.no (fun e => nomatch e) ?_
        walk_at "rd"
        refine ⟨rfl, ?_⟩
        walk_at "rd"
        refine Rd.no (fun e => nomatch e) ?_
        walk_at "rd"
        refine Rx.askInt (.int i) ?_
        walk_at "rd"
        refine Rd.yes rfl ?_
        walk_at "rd"
        refine Rx.askBl (.int i) ?_
        walk_at "rd"
        refine Rd.no Bool.false_ne_true ?_
        walk_at "rd"
        rw [decide_eq_true rfl]
        exact k

end
end W

namespace W
open PySem PySem.Spec PyProof.Rows L2
section
variable {P : Program} {w : World} {K : PySem.W.Frag} {mg : Str → Option Value} {base : Heap}
/-! ### letters and watches: texts of any signs -/
/-- no text -/
def NoTxt (K : PySem.W.Frag) (H : Hp) (x : V) : Prop := (∃ k, Rx.Is H x k ∧ k.isStr = false) ∨ ∃ (a C dx : Addr) (fs : List (Str × V)), x = .ref a ∧ H a = some (.ins C dx fs) ∧ Cls K C ∧ OwnTy K C ∧ PySem.W.mroIn K C (.type "str") = some false
theorem NoTxt.same {H H' : Hp} {x : V} (s : Same H H') (h : NoTxt K H x) : NoTxt K H' x := h.imp (fun ⟨k, i, e⟩ => ⟨k, i.same s, e⟩) fun ⟨a, C, dx, fs, e, g, r⟩ => ⟨a, C, dx, fs, e, s _ _ g, r⟩
theorem NoTxt.ask {H : Hp} {x : V} {Q : VK} (h : NoTxt K H x) (q : Q (.bl false) H) : rIsi K [x, .ty "str"] H Q := by
  rcases h with ⟨k, i, e⟩ | ⟨a, C, dx, fs, rfl, g, c, o, m⟩
  · refine Rx.askStr i ?_
    rw [e]
    exact q
  · refine ⟨_, _, _, _, false, rfl, .ty "str", .base (.ins g c o.ha o.hn o.htk o.hm), ?_, q⟩
    show (if (Value.ref C == Value.type "str") = true then some true else if PySem.W.kitMeta "str" = true then PySem.W.subIn K (.ref C) (.type "str") else none) = some false
    rw [if_neg (by simp), if_pos (by decide +kernel)]
    exact m
def sp_is_letters (K : PySem.W.Frag) : Sp := fun vs H Q _ => (∃ z : Str, vs = [.str z] ∧ z.length ≤ 1000000 ∧ ∀ (b : Bool) H', (b = true ↔ Lt.Let z) → Same H H' → Q (.bl b) H') ∨ (∃ x, vs = [x] ∧ NoTxt K H x ∧ ∀ H', Same H H' → Q (.bl false) H')
def sp_is_word (K : PySem.W.Frag) : Sp := fun vs H Q _ => ∃ z : Str, vs = [.str z] ∧ Lt.Wd 40 z ∧ ∀ H', Same H H' → Q (.bl true) H'
def sp_is_watch (K : PySem.W.Frag) : Sp := fun vs H Q _ => (∃ z : Str, vs = [.str z] ∧ z.length ≤ 1000000 ∧ ∀ (b : Bool) H', (b = true ↔ Lt.Wd 12 z) → Same H H' → Q (.bl b) H') ∨ (∃ x, vs = [x] ∧ NoTxt K H x ∧ ∀ H', Same H H' → Q (.bl false) H')
theorem let_all (z : Str) : (z.cps.toList.map fun c => decide (c ∈ Lt.Abc.cps.toList)).all id = true ↔ Lt.Let z := by
  rw [List.all_eq_true]
  constructor
  · intro h c hc
    have := h _ (List.mem_map.mpr ⟨c, hc, rfl⟩)
    simpa using this
  · intro h b hb
    obtain ⟨c, hc, rfl⟩ := List.mem_map.mp hb
    simpa using h c hc
theorem ok_is_letters (T : Txt K mg) : FnOk P w K mg base CX0 1 T.f_is_letters T.fd_is_letters ["value"] (sp_is_letters K) := by
  refine T.F_is_letters.ok sc_is_letters (fun vs H Q E h => ?_) (fun cdv A outer s H vs Q E hr h => ?_)
  · rcases h with ⟨z, rfl, _⟩ | ⟨z, rfl, _⟩ <;> rfl
  · refine ⟨_, (pss_one (ps_ret (pe_and (pe_callB (id := "isinstance") (r := rIsi K) call_isi (by rfl) T.n_isinstance (by decide +kernel) (pa_cons (pv 0) (pa_cons (pe_bltn (v := .ty "str") (u := .type "str") (by rfl) T.n_str (by decide +kernel) rfl) pa_nil))) (pe_one (pe_callB (id := "all") (r := rAll K) (cr_all rfl) (by rfl) T.n_all (by decide +kernel) (pa_cons (pe_lc (own := [("letter", 1)]) (g := gName 1) (tt := tYes) rfl sc_is_letters.nd (pi_str (pv 0)) (blkOk_by (own := [("letter", 1)]) (N := ["value", "letter"]) (sc := defScope s_is_letters) (by decide +kernel)) (fun _ _ _ _ _ => (pg_name (i := 1) sc_is_letters.nd rfl (.inl rfl))) (fun _ _ _ _ _ => pts_nil) (fun _ _ _ _ _ => (pe_cmpR Rd.o_inC (pv 1) (pe_glob (v := .str "abcdefghijklmnopqrstuvwxyz") rfl T.m_LETTERS ⟨_, rfl⟩) rfl))) pa_nil)))))), ?_⟩
    rcases h with ⟨z, rfl, hl, k⟩ | ⟨x, rfl, od, k⟩
    rotate_left
    · walk_at "rd"
      refine od.ask ?_
      walk_at "rd"
      exact k _ (Same.refl _)
    walk_at "rd"
    refine Rd.isiStr ?_
    walk_at "rd"
    refine Rd.lcS walk_str (fun _ _ => trivial) (fun _ i acc _ => acc = ((z.cps.toList.take i).map fun c => decide (c ∈ Lt.Abc.cps.toList)).map V.bl) (fun _ _ _ _ _ => rfl) ?_ ?_
    · rintro D i x G _ acc nD hi hD sm rfl ⟨rfl, c, hc, rfl⟩
      walk_at "rd"
      refine ⟨rfl, Rd.tyes ?_⟩
      walk_at "rd"
      refine Rd.inC ?_
      have hi2 : i < z.length := hi
      have hc2 : z.cps.toList[i]? = some c := by simpa using hc
      refine Rd.lcPush hD nD sm (by rw [List.length_map, List.length_map, List.length_take, sizeLine_eq]; omega) fun G _ _ => ?_
      rw [Rd.take_snoc hc2, List.map_append, List.map_append]
      rfl
    · rintro D acc G nD hD sm rfl
      refine Rd.all (.of hD) ?_
      rw [show (z.cps.toList.take z.cps.size) = z.cps.toList from by rw [← Array.length_toList, List.take_length]]
      exact k _ _ (let_all z) sm
end
end W

namespace W
open PySem PySem.Spec PyProof.Rows L2
section
variable {P : Program} {w : World} {K : PySem.W.Frag} {mg : Str → Option Value} {base : Heap}
def sp_check_word (K : PySem.W.Frag) : Sp := fun vs H Q _ => ∃ z : Str, vs = [.str z] ∧ Lt.Wd 40 z ∧ ∀ H', Same H H' → Q (.str z) H'
end
end W

namespace W
open PySem PySem.Spec PyProof.Rows L2
section
variable {P : Program} {w : World} {K : PySem.W.Frag} {mg : Str → Option Value} {base : Heap}
/-! ### names drawn -/
def sp_l_names (K : PySem.W.Frag) : Sp := fun vs H Q _ => ∃ (t c n : Nat), vs = [.ref t, .int (n : Nat)] ∧ Tape H t c ∧ n ≤ 20 ∧ ∀ (a : Addr) (ns : List Str) H', H' a = some (.lst (ns.map V.str)) → a ≠ t → ns.length = n → ns.Nodup → (∀ z ∈ ns, Lt.Wd 8 z) → Tape H' t c → Rd.But t H H' → Q (.ref a) H'
theorem abc_at {i : Int} (h0 : 0 ≤ i) (h1 : i < 26) : ∃ c, atI Lt.Abc.cps.toList i = some c ∧ c ∈ Lt.Abc.cps.toList ∧ Lt.Abc.cps.toList[i.toNat]? = some c := by
  have l : Lt.Abc.cps.toList.length = 26 := by decide +kernel
  have hi : i.toNat < Lt.Abc.cps.toList.length := by omega
  exact ⟨_, Rd.atI_of h0 (List.getElem?_eq_getElem hi), List.getElem_mem hi, List.getElem?_eq_getElem hi⟩
theorem one_len (c : Nat) : (⟨#[c]⟩ : Str).length = 1 := rfl
theorem abc_inj {i j c : Nat} (h : Lt.Abc.cps.toList[i]? = some c) (k : Lt.Abc.cps.toList[j]? = some c) : i = j := by
  have nd : Lt.Abc.cps.toList.Nodup := by decide +kernel
  have h1 := List.getElem?_eq_some_iff.mp h
  have h2 := List.getElem?_eq_some_iff.mp k
  exact (List.getElem_inj nd).mp (h1.2.trans h2.2.symm)
/-- the letter that tells name k from the others -/
def nameMark (st : Int) (at_ : Nat) (k : Nat) (z : Str) : Prop := ∃ c, z.cps.toList[at_]? = some c ∧ Lt.Abc.cps.toList[((st + 7 * (k : Nat)) % 26).toNat]? = some c
theorem mark_of {st : Int} {at_ k : Nat} {a r : Str} {c : Nat} (al : a.length = at_) (hc : Lt.Abc.cps.toList[((st + 7 * (k : Nat)) % 26).toNat]? = some c) : nameMark st at_ k (a ++ ⟨#[c]⟩ ++ r) := by
  refine ⟨c, ?_, hc⟩
  have e : (a ++ ⟨#[c]⟩ ++ r : Str).cps.toList = a.cps.toList ++ ([c] ++ r.cps.toList) := by
    show (a.cps ++ #[c] ++ r.cps).toList = _
    rw [Array.toList_append, Array.toList_append, List.append_assoc]
  have al' : a.cps.toList.length = at_ := al
  rw [e, List.getElem?_append_right (by omega), al', Nat.sub_self]
  rfl
theorem mark_inj {st : Int} {at_ j k : Nat} {z : Str} (j20 : j < 26) (k20 : k < 26) (h : nameMark st at_ j z) (h' : nameMark st at_ k z) : j = k := by
  obtain ⟨c, h1, h2⟩ := h
  obtain ⟨d, h3, h4⟩ := h'
  rw [h1] at h3
  cases h3
  have := abc_inj h2 h4
  omega
theorem marks_nodup {st : Int} {at_ : Nat} {ns : List Str} (l : ns.length ≤ 26) (h : ∀ (i : Nat) (z : Str), ns[i]? = some z → nameMark st at_ i z) : ns.Nodup := by
  refine List.pairwise_iff_getElem.mpr fun i j hi hj ij e => ?_
  have a := h i _ (List.getElem?_eq_getElem hi)
  have b := h j _ (List.getElem?_eq_getElem hj)
  rw [← e] at b
  have := mark_inj (by omega) (by omega) a b
  omega
theorem ok_l_names (T : Txt K mg) : FnOk P w K mg base CX0 9 T.f_l_names T.fd_l_names ["_law_hand_here", "_law_many"] (sp_l_names K) := by
  refine T.F_l_names.ok sc_l_names (fun vs H Q E h => ?_) (fun cdv A outer s H vs Q E hr h => ?_)
  · obtain ⟨t, c, n, rfl, _⟩ := h
    rfl
  · obtain ⟨t, c, n, rfl, hT, n20, k⟩ := h
    refine ⟨_, (pss_cons (ps_set (i := 2) sc_l_names.nd rfl (.inr rfl) pe_str)
  (pss_cons (ps_set (i := 3) sc_l_names.nd rfl (.inl rfl) (pe_call (ok_l_draw T) (hr.mono (by decide)) rfl T.g_l_draw T.F_l_draw.kp T.b_l_draw .nil pass0 (pa_cons (pv 0) (pa_cons pe_int pa_nil))))
  (pss_cons (ps_set (i := 5) sc_l_names.nd rfl (.inl rfl) (pe_join pe_str (pe_lc (own := [("_law_k", 4)]) (g := gName 4) (tt := tYes) rfl sc_l_names.nd (pi_range1 rfl T.n_range (pa_cons pe_int pa_nil)) (blkOk_by (own := [("_law_k", 4)]) (N := ["_law_hand_here", "_law_many", "_law_letters", "_law_start", "_law_k", "_law_stem", "_law_at", "_law_names_here", "_law_name"]) (sc := defScope s_l_names) (by decide +kernel)) (fun _ _ _ _ _ => (pg_name (i := 4) sc_l_names.nd rfl (.inl rfl))) (fun _ _ _ _ _ => pts_nil) (fun _ _ _ _ _ => (pe_ix ix_str (pv 2) (pe_call (ok_l_draw T) (hr.mono (by decide)) rfl T.g_l_draw T.F_l_draw.kp T.b_l_draw .nil pass0 (pa_cons (pv 0) (pa_cons pe_int pa_nil))) (fun _ _ => rfl))))))
  (pss_cons (ps_set (i := 6) sc_l_names.nd rfl (.inl rfl) (pe_call (ok_l_draw T) (hr.mono (by decide)) rfl T.g_l_draw T.F_l_draw.kp T.b_l_draw .nil pass0 (pa_cons (pv 0) (pa_cons pe_int pa_nil))))
  (pss_cons (ps_set (i := 7) sc_l_names.nd rfl (.inl rfl) (pe_lst pa_nil))
  (pss_cons (ps_for PassesOwn.never rfl (pi_range1 rfl T.n_range (pa_cons (pv 1) pa_nil)) (pg_name (i := 4) sc_l_names.nd rfl (.inl rfl))
  (pss_cons (ps_set (i := 8) sc_l_names.nd rfl (.inl rfl) (pe_op Rd.o_addS (pe_slice sl_str (pv 5) po_none (po_some (pv 6))) (pe_ix ix_str (pv 2) (pe_op op_mod (pe_callTy (T := "int") (r := _) Rd.c_int (by rfl) T.n_int (by decide +kernel) (pa_cons (pe_op op_add (pv 3) (pe_op op_mul pe_int (pv 4))) pa_nil)) pe_int) (fun _ _ => rfl))))
  (pss_one (ps_expr (pe_bm PySem.F.plainAttrs_list PySem.F.slot_list_append PySem.F.type_list_append mt_append (pv 7) (pa_cons (pe_op Rd.o_addS (pv 8) (pe_slice sl_str (pv 5) (po_some (pv 6)) (po_some (pe_op op_add (pv 6) (pe_call (ok_l_draw T) (hr.mono (by decide)) rfl T.g_l_draw T.F_l_draw.kp T.b_l_draw .nil pass0 (pa_cons (pv 0) (pa_cons (pe_op op_sub pe_int (pv 6)) pa_nil))))))) pa_nil))))))
  (pss_one (ps_ret (pv 7))))))))), ?_⟩
    walk_at "rd"
    refine drawR hT (by decide) (by decide) fun st H1 st0 st1 hT1 b1 => ?_
    walk_at "rd"
    refine ⟨by decide, by decide, ?_⟩
    refine lcT (n := 7) walk_range hT1 (fun _ _ => trivial) (fun D i acc _ => ∃ ys : List Str, acc = ys.map V.str ∧ ys.length = i ∧ ∀ y ∈ ys, Lt.Let y ∧ y.length = 1) (fun _ _ _ _ _ => ⟨[], rfl, rfl, fun _ m => nomatch m⟩) ?_ ?_
    · rintro D i y _ G acc nD hi hD tpG bG ⟨ys, rfl, yl, ya⟩ ⟨rfl, rfl⟩
      have dt := (hT1.new nD).1
      walk_at "rd"
      refine ⟨rfl, ?_⟩
      walk_at "rd"
      refine drawR tpG (by decide) (by decide) fun q H2 q0 q1 tp2 b2 => ?_
      obtain ⟨ch, e, hc, _⟩ := abc_at q0 q1
      refine Rd.ixS (by decide +kernel) e ?_
      have hD2 := b2 _ _ dt hD
      refine lcPuT hD2 nD hT1 tp2 (bG.trans b2) (by rw [List.length_map, sizeLine_eq]; omega) fun G4 g4 off4 => ⟨ys ++ [⟨#[ch]⟩], by rw [List.map_append]; rfl, by rw [List.length_append, yl]; rfl, fun z m => ?_⟩
      rcases List.mem_append.mp m with m | m
      · exact ya z m
      · rw [List.mem_singleton.mp m]
        exact ⟨Lt.Let.one hc, rfl⟩
    rintro D acc H2 nD hD hT2 b2 ⟨ys, rfl, yl, ya⟩
    obtain ⟨jl, jn, js⟩ := Lt.join_one yl ya
    refine ⟨"", D, ys, rfl, rfl, .inl (.of hD), (by rw [js, yl]; decide), ?_⟩
    walk_at "rd"
    refine drawR hT2 (by decide) (by decide) fun at_ H3 a0 a7 hT3 b3 => ?_
    walk_at "rd"
    refine ⟨Nat.zero_le _, Rd.new fun f H4 nf gf s4 => ?_⟩
    have hT4 := hT3.same s4
    have b04 := ((b1.trans b2).trans b3).same s4
    have ft := (hT3.new nf).1
    have fc := (hT3.new nf).2
    have fH : H f = none := ((b1.trans b2).trans b3).free ft nf
    clear b1 b2 b3 hT1 hT2 hT3 hT s4 nf hD nD
    generalize Txt.join "" ys = stem at jl jn
    obtain ⟨A, rfl⟩ : ∃ A : Nat, at_ = (A : Nat) := ⟨at_.toNat, by omega⟩
    walk_at "rd"
    refine Rd.forS ?_
    walk_at "rd"
    refine ⟨by omega, by omega, ?_⟩
    rw [Int.toNat_natCast]
    refine for_range (lo := 0) (n := n) (fun i σ G => (∃ (o4 o8 : Option V), σ = [some (.ref t), some (.int (n : Nat)), some (.str Lt.Abc), some (.int st), o4, some (.str stem), some (.int (A : Nat)), some (.ref f), o8]) ∧ Tape G t c ∧ Rd.But t H G ∧ ∃ ns : List Str, G f = some (.lst (ns.map V.str)) ∧ ns.length = i ∧ (∀ z ∈ ns, Lt.Wd 8 z) ∧ ∀ (j : Nat) (z : Str), ns[j]? = some z → nameMark st A j z) ⟨⟨_, _, rfl⟩, hT4, b04, [], gf, rfl, (fun _ m => nomatch m), fun _ _ e => nomatch e⟩ ?_ ?_
    · rintro i _ G hi ⟨⟨o4, o8, rfl⟩, hTG, bG, ns, gG, nl, nw, nm⟩
      walk_at "rd"
      refine Rd.slS (by rw [jn, sizeLine_eq]; omega) ?_
      walk_at "rd"
      refine Rd.iC (.inl ⟨by omega, by omega⟩) ?_
      walk_at "rd"
      refine Rd.iC (by decide) ?_
      walk_at "rd"
      obtain ⟨ch, e, hc, hm⟩ := abc_at (i := (st + 7 * (0 + (i : Int))) % 26) (Int.emod_nonneg _ (by decide)) (Int.emod_lt_of_pos _ (by decide))
      refine Rd.ixS (by decide +kernel) e ?_
      have hl := Lt.cut_to (z := stem) (b := (A : Nat)) (by omega)
      rw [jn] at hl
      refine Rd.addS (by rw [sizeLine_eq]; show (cutS stem none (some (A : Nat))).length + 1 ≤ _; omega) ?_
      walk_at "rd"
      refine Rd.tyL (.of gG) ?_
      walk_at "rd"
      refine drawR hTG (by omega) (by omega) fun q G2 q0 q1 hT2 b2 => ?_
      walk_at "rd"
      refine Rd.slS (by rw [jn, sizeLine_eq]; omega) ?_
      walk_at "rd"
      have hr := Lt.cut_lenI (z := stem) (a := (A : Nat)) (b := (A : Nat) + q) (by omega) (by omega) (by rw [jn]; omega)
      refine Rd.addS (by rw [sizeLine_eq, Lt.len_app]; show (cutS stem none (some (A : Nat))).length + 1 + _ ≤ _; omega) ?_
      walk_at "rd"
      have gG2 := b2 _ _ ft gG
      refine Rd.app gG2 (by rw [List.length_map, sizeLine_eq]; omega) fun G3 g3 off3 => ?_
      walk_at "rd"
      refine ⟨⟨_, _, rfl⟩, hT2.off ft fc off3, but_off (bG.trans b2) fH off3, ns ++ [_], by rw [List.map_append]; exact g3, by rw [List.length_append, nl]; rfl, fun z m => ?_, fun j z hz => ?_⟩
      · rcases List.mem_append.mp m with m | m
        · exact nw z m
        · rw [List.mem_singleton.mp m]
          refine ⟨((jl.cut _ _).app (Lt.Let.one hc)).app (jl.cut _ _), ?_, ?_⟩
          · rw [Lt.len_app, Lt.len_app, one_len]
            omega
          · rw [Lt.len_app, Lt.len_app, one_len]
            omega
      · by_cases hj : j < ns.length
        · rw [List.getElem?_append_left hj] at hz
          exact nm j z hz
        · have : j = ns.length := by
            have := (List.getElem?_eq_some_iff.mp hz).1
            rw [List.length_append, List.length_singleton] at this
            omega
          subst this
          rw [List.getElem?_append_right (Nat.le_refl _), Nat.sub_self] at hz
          cases hz
          rw [Int.zero_add] at hm
          rw [nl]
          exact mark_of (a := cutS stem none (some (A : Nat))) (by omega) hm
    · rintro _ G ⟨⟨o4, o8, rfl⟩, hTG, bG, ns, gG, nl, nw, nm⟩
      walk_at "rd"
      exact k f ns G gG ft nl (marks_nodup (by omega) nm) nw hTG bG

end
end W

namespace W
open PySem PySem.Spec PyProof.Rows L2
section
variable {P : Program} {w : World} {K : PySem.W.Frag} {mg : Str → Option Value} {base : Heap}
open Mr (Rk joined joined_lt metF leftF rightF topF)
set_option exponentiation.threshold 10000
/-! ### letters, names (words_x: of anything) -/
theorem cut_takeV {xs : List V} {i : Nat} : cutV xs none (some ((i : Nat) : Int)) = xs.take i := by
  have e1 : HT.sIx xs.length 0 none = 0 := rfl
  unfold cutV
  rw [e1, HT.sIx_nat, List.drop_zero, Nat.sub_zero]
  by_cases c : i ≤ xs.length
  · rw [Nat.min_eq_left c]
  · rw [Nat.min_eq_right (by omega), List.take_length, List.take_of_length_le (by omega)]
theorem cut_takeN {ns : List Str} {i : Nat} : cutV (ns.map V.str) none (some ((i : Nat) : Int)) = (ns.take i).map V.str := by
  rw [cut_takeV, List.map_take]
def Lt1 (z : Str) : Prop := Lt.Let z ∧ z.length = 1
def sp_is_letter (K : PySem.W.Frag) : Sp := fun vs H Q _ => (∃ z : Str, vs = [.str z] ∧ z.length ≤ 1000000 ∧ ∀ (b : Bool) H', (b = true ↔ Lt1 z) → Same H H' → Q (.bl b) H') ∨ (∃ x, vs = [x] ∧ NoTxt K H x ∧ ∀ H', Same H H' → Q (.bl false) H')
def sp_is_name (K : PySem.W.Frag) : Sp := fun vs H Q _ => (∃ z : Str, vs = [.str z] ∧ z.length ≤ 1000000 ∧ ∀ (b : Bool) H', (b = true ↔ Lt.Wd 8 z) → Same H H' → Q (.bl b) H') ∨ (∃ x, vs = [x] ∧ NoTxt K H x ∧ ∀ H', Same H H' → Q (.bl false) H')
theorem ok_is_letter (T : Txt K mg) : FnOk P w K mg base CX0 2 T.f_is_letter T.fd_is_letter ["value"] (sp_is_letter K) := by
  refine T.F_is_letter.ok sc_is_letter (fun vs H Q E h => ?_) (fun cdv A outer s H vs Q E hr h => ?_)
  · rcases h with ⟨z, rfl, _⟩ | ⟨z, rfl, _⟩ <;> rfl
  · refine ⟨_, (pss_one (ps_ret (pe_and (pe_call (ok_is_letters T) (hr.mono (by decide)) rfl T.g_is_letters T.F_is_letters.kp T.b_is_letters .nil pass0 (pa_cons (pv 0) pa_nil)) (pe_one (pe_cmpR op_eq (pe_callB (id := "len") (r := _) Rd.c_lenS (by rfl) T.n_len (by decide +kernel) (pa_cons (pv 0) pa_nil)) pe_int (nomark _)))))), ?_⟩
    rcases h with ⟨z, rfl, hl, k⟩ | ⟨x, rfl, od, k⟩
    · walk_at "rd"
      refine .inl ⟨z, rfl, hl, fun b H1 hb s1 => ?_⟩
      walk_at "rd"
      cases b with
      | false =>
        refine Rd.no Bool.false_ne_true ?_
        exact k false _ ⟨(fun e => nomatch e), fun e => nomatch (hb.mpr e.1)⟩ s1
      | true =>
        have hz := hb.mp rfl
        refine Rd.yes rfl ?_
        walk_at "rd"
        refine Rd.lenStr (by rw [sizeLine_eq]; omega) ?_
        walk_at "rd"
        refine k _ _ ?_ s1
        rw [decide_eq_true_iff]
        exact ⟨fun e => ⟨hz, by omega⟩, fun e => by have := e.2; omega⟩
    · walk_at "rd"
      refine .inr ⟨x, rfl, od, fun H1 s1 => ?_⟩
      walk_at "rd"
      exact k _ s1
theorem ok_is_name (T : Txt K mg) : FnOk P w K mg base CX0 2 T.f_is_name T.fd_is_name ["value"] (sp_is_name K) := by
  refine T.F_is_name.ok sc_is_name (fun vs H Q E h => ?_) (fun cdv A outer s H vs Q E hr h => ?_)
  · rcases h with ⟨z, rfl, _⟩ | ⟨z, rfl, _⟩ <;> rfl
  · refine ⟨_, (pss_one (ps_ret (pe_and (pe_call (ok_is_letters T) (hr.mono (by decide)) rfl T.g_is_letters T.F_is_letters.kp T.b_is_letters .nil pass0 (pa_cons (pv 0) pa_nil)) (pe_one (pe_chain op_le op_le pe_int (pe_callB (id := "len") (r := _) Rd.c_lenS (by rfl) T.n_len (by decide +kernel) (pa_cons (pv 0) pa_nil)) (pe_glob (v := .int 8) rfl T.m_MOST_NAME ⟨_, rfl⟩)))))), ?_⟩
    rcases h with ⟨z, rfl, hl, k⟩ | ⟨x, rfl, od, k⟩
    · walk_at "rd"
      refine .inl ⟨z, rfl, hl, fun b H1 hb s1 => ?_⟩
      walk_at "rd"
      cases b with
      | false =>
        refine Rd.no Bool.false_ne_true ?_
        exact k false _ ⟨(fun e => nomatch e), fun e => nomatch (hb.mpr e.ok)⟩ s1
      | true =>
        have hz := hb.mp rfl
        refine Rd.yes rfl ?_
        walk_at "rd"
        refine Rd.lenStr (by rw [sizeLine_eq]; omega) ?_
        walk_at "rd"
        by_cases c : (1 : Int) ≤ (z.length : Nat)
        · refine Rd.yes c ?_
          walk_at "rd"
          refine k _ _ ?_ s1
          rw [decide_eq_true_iff]
          exact ⟨fun e => ⟨hz, by omega, e⟩, fun e => e.l1⟩
        · refine Rd.no c ?_
          walk_at "rd"
          exact k false _ ⟨(fun e => nomatch e), fun e => absurd e.l0 (by omega)⟩ s1
    · walk_at "rd"
      refine .inr ⟨x, rfl, od, fun H1 s1 => ?_⟩
      walk_at "rd"
      exact k _ s1
/-! ### worths as they are kept -/
def sp_plain_worth (K : PySem.W.Frag) (CK CL CN CR : Addr) : Sp := fun vs H Q _ => ∃ (b : Addr) (x : V) (wd : Wd) (v : Pv), vs = [.ref b, x] ∧ ReAt K CK CL CN CR H b wd ∧ wd.has v ∧ HdI CR H x v ∧ ∀ y H', ProI CR H' y v → Same H H' → Q y H'
theorem ReAt.askN (T : Txt K mg) {H : Hp} {b : Addr} {wd : Wd} {Q : VK} (h : ReAt K T.C_Reckoning T.C_Lengths T.C_Numbers T.C_Ratio H b wd) (q : Q (.bl wd.isNum) H) : rIsi K [.ref b, .ref T.C_Numbers] H Q := by
  cases wd with
  | len =>
    obtain ⟨dx, e⟩ := h
    exact ⟨_, _, _, _, false, rfl, .own _, .base (.ins e T.cl_Lengths T.ty_Lengths.ha T.ty_Lengths.hn T.ty_Lengths.htk T.ty_Lengths.hm), Rp.kitO_own T.ic_Numbers T.tc_Numbers T.s_Lengths_Numbers (sub_ne T.sl_Numbers T.s_Lengths_Numbers), q⟩
  | num =>
    obtain ⟨dx, _, _, e, _⟩ := h
    exact W.isiOwn T.cl_Numbers T.ty_Numbers e q
  | rk n J M z o =>
    obtain ⟨dx, _, _, _, _, _, e, _⟩ := h
    exact ⟨_, _, _, _, false, rfl, .own _, .base (.ins e T.cl_Reckoning T.ty_Reckoning.ha T.ty_Reckoning.hn T.ty_Reckoning.htk T.ty_Reckoning.hm), Rp.kitO_own T.ic_Numbers T.tc_Numbers T.s_Reckoning_Numbers (sub_ne T.sl_Numbers T.s_Reckoning_Numbers), q⟩
theorem ok_plain_worth (T : Txt K mg) : FnOk P w K mg base CX0 7 T.f_plain_worth T.fd_plain_worth ["reckoning", "worth"] (sp_plain_worth K T.C_Reckoning T.C_Lengths T.C_Numbers T.C_Ratio) := by
  refine T.F_plain_worth.ok sc_plain_worth (fun vs H Q E h => ?_) (fun cdv A outer s H vs Q E hr h => ?_)
  · obtain ⟨b, x, wd, v, rfl, _⟩ := h
    rfl
  · obtain ⟨b, x, wd, v, rfl, hR, hv, hx, k⟩ := h
    refine ⟨_, (pss_one (ps_ret (pe_ifExp (pt_val (pe_callB (id := "isinstance") (r := rIsi K) call_isi (by rfl) T.n_isinstance (by decide +kernel) (pa_cons (pv 0) (pa_cons (pe_glob (v := .ref T.C_Numbers) rfl T.c_Numbers rfl) pa_nil)))) (pe_call (ok_as_ratio T) (hr.mono (by decide)) rfl T.g_as_ratio T.F_as_ratio.kp T.b_as_ratio .nil pass0 (pa_cons (pv 1) pa_nil)) (pv 1)))), ?_⟩
    walk_at "rd"
    refine hR.askN T ?_
    cases wd with
    | num =>
      walk_at "rd"
      refine Rd.yes rfl ?_
      walk_at "rd"
      cases v with
      | non => exact hv.elim
      | int i => exact hv.elim
      | rat r => exact ⟨x, r, rfl, hx, fun c H1 hc s1 => k _ _ ⟨c, rfl, hc⟩ s1⟩
    | len =>
      walk_at "rd"
      refine Rd.no Bool.false_ne_true ?_
      walk_at "rd"
      cases v with
      | non => exact k _ _ hx (Same.refl _)
      | int i => exact k _ _ hx (Same.refl _)
      | rat r => exact hv.elim
    | rk m J M z o =>
      walk_at "rd"
      refine Rd.no Bool.false_ne_true ?_
      walk_at "rd"
      cases v with
      | non => exact k _ _ hx (Same.refl _)
      | int i => exact k _ _ hx (Same.refl _)
      | rat r => exact hv.elim
/-! ### the places of a web -/
structure NamesOk (ns : List Str) : Prop where
  l1 : 1 ≤ ns.length
  l10 : ns.length ≤ 10
  nd : ns.Nodup
  nm : ∀ z ∈ ns, Lt.Wd 8 z
def sp_checked_places (K : PySem.W.Frag) : Sp := fun vs H Q _ => ∃ (a : Addr) (ns : List Str), vs = [.ref a] ∧ SqL K H a (ns.map V.str) ∧ NamesOk ns ∧ ∀ p H', H' p = some (.tup (ns.map V.str)) → Same H H' → Q (.ref p) H'
theorem ok_checked_places (T : Txt K mg) : FnOk P w K mg base CX0 4 T.f_checked_places T.fd_checked_places ["places"] (sp_checked_places K) := by
  refine T.F_checked_places.ok sc_checked_places (fun vs H Q E h => ?_) (fun cdv A outer s H vs Q E hr h => ?_)
  · obtain ⟨a, ns, rfl, _⟩ := h
    rfl
  · obtain ⟨a, ns, rfl, ha, ok, k⟩ := h
    have l1 := ok.l1
    have l10 := ok.l10
    refine ⟨_, (pss_cons (ps_if (PW.pt (pw_or (pt_not (pt_val (pe_callB (id := "isinstance") (r := rIsiT K) call_isiT (by rfl) T.n_isinstance (by decide +kernel) (pa_cons (pv 0) (pa_cons (pe_tup (pa_cons (pe_bltn (v := .ty "list") (u := .type "list") (by rfl) T.n_list (by decide +kernel) rfl) (pa_cons (pe_bltn (v := .ty "tuple") (u := .type "tuple") (by rfl) T.n_tuple (by decide +kernel) rfl) pa_nil))) pa_nil))))) (pw_or1 (pt_not (pt_chain op_le op_le pe_int (pe_callB (id := "len") (r := Rd.nLen K) Rd.c_len (by rfl) T.n_len (by decide +kernel) (pa_cons (pv 0) pa_nil)) (pe_glob (v := .int 10) rfl T.m_MOST_PLACES ⟨_, rfl⟩))))))
  (pss_one ps_never)
  pss_nil)
  (pss_cons (ps_for PassesOwn.never rfl (pi_enum (by rfl) T.n_enumerate (pa_cons (pv 0) pa_nil)) (pg_tup rfl (pgs_cons (pg_name (i := 1) sc_checked_places.nd rfl (.inl rfl)) (pgs_cons (pg_name (i := 2) sc_checked_places.nd rfl (.inl rfl)) pgs_nil)))
  (pss_one (ps_if (PW.pt (pw_or (pt_not (pt_val (pe_call (ok_is_name T) (hr.mono (by decide)) rfl T.g_is_name T.F_is_name.kp T.b_is_name .nil pass0 (pa_cons (pv 2) pa_nil)))) (pw_or1 (pt_cmpR (r := rIn K false) op_in_seq (pv 2) (pe_slice (r := rSlL K) sl_list (pv 0) po_none (po_some (pv 1))) (by rfl)))))
  (pss_one ps_never)
  pss_nil)))
  (pss_one (ps_ret (pe_callTy (T := "tuple") (r := Rd.nTupOf K) Rd.c_tupOf (by rfl) T.n_tuple (by decide +kernel) (pa_cons (pv 0) pa_nil)))))), ?_⟩
    walk_at "rd"
    refine ⟨Nat.le_of_ble_eq_true rfl, Rd.new fun p G np gp s1 => ?_⟩
    walk_at "rd"
    refine Ru.isRow (.inl (s1.seq ha)) gp ?_
    walk_at "rd"
    refine Rd.len (.inl (s1.seq ha)) ?_
    rw [List.length_map]
    walk_at "rd"
    refine Rd.yes (by omega) ?_
    walk_at "rd"
    refine Rd.yes (by omega) ?_
    walk_at "rd"
    refine Rd.forS ?_
    unfold iEnum
    walk_at "rd"
    refine ⟨a, _, rfl, s1.seq ha, Ru.for_enum (K := K) (a := a) (xs := ns.map V.str) (fun i σ H' => (∃ o1 o2 : Option V, σ = [some (.ref a), o1, o2]) ∧ Same H H') ⟨⟨_, _, rfl⟩, s1⟩ (fun i σ H' _ e => e.2.seq ha) ?_ ?_⟩
    · rintro i x _ H' t hx ⟨⟨o1, o2, rfl⟩, sm⟩ hT
      obtain ⟨z, hz, rfl⟩ := Rd.map_strG hx
      have sT := Rd.same_upd (o := .tup [.int (i : Nat), .str z]) hT
      have gt : upd H' t (.tup [.int (i : Nat), .str z]) t = _ := upd_same
      generalize upd H' t (.tup [.int (i : Nat), .str z]) = G2 at sT gt
      have hzn := ok.nm z (List.mem_of_getElem? hz)
      refine Rd.tupT (.of gt) rfl ?_
      walk_at "rd"
      refine .inl ⟨z, rfl, by have := hzn.l1; omega, fun b H1 hb s2 => ?_⟩
      obtain rfl : b = true := hb.mpr hzn
      have s02 := (sm.trans sT).trans s2
      walk_at "rd"
      refine Rd.slL (s02.seq ha) (Rd.new fun c G3 nc gc s3 => ?_)
      walk_at "rd"
      rw [cut_takeN] at gc
      refine Rd.inStrsY (.inl (.of gc)) ?_
      rw [decide_eq_false (Rd.nodup_take ok.nd hz)]
      walk_at "rd"
      exact ⟨⟨_, _, rfl⟩, s02.trans s3⟩
    · rintro _ H' ⟨⟨o1, o2, rfl⟩, sm⟩
      walk_at "rd"
      refine Rd.tupOf (sm.seq ha) (Rd.new fun c G3 nc gc s3 => ?_)
      exact k c G3 gc (sm.trans s3)
/-! ### roads -/
/-- one road: from, letter, to -/
abbrev Rk3 := Str × Str × Str
def key3 (k : Rk3) : List Key := [.inr k.1, .inr k.2.1, .inr k.2.2]
theorem key3_inj {k j : Rk3} (h : key3 k = key3 j) : k = j := by
  obtain ⟨a, b, c⟩ := k
  obtain ⟨a', b', c'⟩ := j
  simp only [key3, List.cons.injEq, Sum.inr.injEq, and_true] at h
  obtain ⟨rfl, rfl, rfl⟩ := h
  rfl
/-- a road as it is handed: a tuple of four -/
def RoadH (C : Addr) (H : Hp) (y : V) (r : Rk3 × Pv) : Prop := ∃ (p : Addr) (x : V), y = .ref p ∧ H p = some (.tup [.str r.1.1, .str r.1.2.1, .str r.1.2.2, x]) ∧ HdI C H x r.2
theorem RoadH.same {C : Addr} {H H' : Hp} {y : V} {r : Rk3 × Pv} (s : Same H H') (h : RoadH C H y r) : RoadH C H' y r := let ⟨p, x, e, h, i⟩ := h; ⟨p, x, e, s _ _ h, i.same s⟩
/-- a road as it is kept: in the dict -/
def RoadK (C : Addr) (H : Hp) (kv : List Key × V) (r : Rk3 × Pv) : Prop := kv.1 = key3 r.1 ∧ ProI C H kv.2 r.2
theorem RoadK.same {C : Addr} {H H' : Hp} {kv : List Key × V} {r : Rk3 × Pv} (s : Same H H') (h : RoadK C H kv r) : RoadK C H' kv r := ⟨h.1, h.2.same s⟩
structure RoadOk (wd : Wd) (ns : List Str) (r : Rk3 × Pv) : Prop where
  frm : r.1.1 ∈ ns
  to : r.1.2.2 ∈ ns
  let1 : Lt1 r.1.2.1
  has : wd.has r.2
  ne : r.2 ≠ wd.noneP
structure RoadsOk (wd : Wd) (ns : List Str) (rs : List (Rk3 × Pv)) : Prop where
  l80 : rs.length ≤ 80
  nd : (rs.map (·.1)).Nodup
  ok : ∀ r ∈ rs, RoadOk wd ns r
def NeNone (K : PySem.W.Frag) (CR : Addr) : R2 := fun x y H Q => rNe x y H Q ∨ (Ro.rOE CR (sp_Ratio_eq K CR) E0 not x y H Q ∨ Bv.rIN CR (sp_Ratio_eq K CR) E0 x y H Q)
def sp_is_road (K : PySem.W.Frag) (CK CL CN CT CR CB CM : Addr) : Sp := fun vs H Q _ => ∃ (b p : Addr) (y : V) (wd : Wd) (ns : List Str) (r : Rk3 × Pv), vs = [.ref b, .ref p, y] ∧ ReAt K CK CL CN CR H b wd ∧ H p = some (.tup (ns.map V.str)) ∧ (∀ z ∈ ns, Lt.Wd 8 z) ∧ RoadH CR H y r ∧ RoadOk wd ns r ∧ ∀ H', Same H H' → Q (.bl true) H'
/-- a worth that is not none, beside none -/
theorem ne_none (T : Txt K mg) {H : Hp} {b : Addr} {x y : V} {wd : Wd} {v : Pv} {Q : VK} (hx : HdI T.C_Ratio H x v) (hy : ProI T.C_Ratio H y wd.noneP) (hv : wd.has v) (ne : v ≠ wd.noneP) (q : Q (.bl true) H) : NeNone K T.C_Ratio x y H Q := by
  cases wd with
  | len =>
    obtain rfl : y = .non := hy
    cases v with
    | non => exact absurd rfl ne
    | int i =>
      obtain rfl : x = .int i := hx
      exact .inl ⟨rfl, by rw [decide_eq_false (fun e => nomatch e)]; exact q⟩
    | rat r => exact hv.elim
  | rk n J M z o =>
    obtain rfl : y = .int (z : Nat) := hy
    cases v with
    | non => exact hv.elim
    | rat r => exact hv.elim
    | int i =>
      obtain rfl : x = .int i := hx
      exact .inl ⟨rfl, by rw [decide_eq_false (fun e => ne (by injection e with e; rw [e]; rfl))]; exact q⟩
  | num =>
    cases v with
    | non => exact hv.elim
    | int i => exact hv.elim
    | rat r =>
      have r0 : r ≠ 0 := fun e => ne (by rw [e]; rfl)
      obtain ⟨c, rfl, hc⟩ := hy
      obtain ⟨dc, ec⟩ := id hc
      rcases (show NumAt T.C_Ratio H x r from hx) with ⟨a, rfl, ha⟩ | ⟨i, rfl, hi⟩
      · obtain ⟨da, ea⟩ := id ha
        refine .inr (.inl (Ro.oe ea ec ⟨a, _, r, rfl, ha, .inl ⟨0, .inl ⟨c, rfl, hc⟩, _, rfl, ?_⟩⟩))
        rw [decide_eq_false r0]
        exact q
      · refine .inr (.inr ⟨i, c, dc, _, rfl, rfl, ec, c, _, 0, rfl, hc, .inl ⟨r, .inr ⟨i, rfl, hi⟩, _, rfl, ?_⟩⟩)
        rw [decide_eq_false (fun e => r0 e.symm)]
        exact q
theorem ok_is_road (T : Txt K mg) : FnOk P w K mg base CX0 4 T.f_is_road T.fd_is_road ["reckoning", "places", "road"] (sp_is_road K T.C_Reckoning T.C_Lengths T.C_Numbers T.C_Tongues T.C_Ratio T.C_BadReckoning T.C_BadWeb) := by
  refine T.F_is_road.ok sc_is_road (fun vs H Q E h => ?_) (fun cdv A outer s H vs Q E hr h => ?_)
  · obtain ⟨b, p, y, wd, ns, r, rfl, _⟩ := h
    rfl
  · obtain ⟨b, p, y, wd, ns, r, rfl, hR, hp, nm, ⟨a, x, rfl, ha, hx⟩, ok, k⟩ := h
    refine ⟨_, (pss_cons (ps_if (PW.pt (pw_or (pt_not (pt_val (pe_callB (id := "isinstance") (r := rIsi K) call_isi (by rfl) T.n_isinstance (by decide +kernel) (pa_cons (pv 2) (pa_cons (pe_bltn (v := .ty "tuple") (u := .type "tuple") (by rfl) T.n_tuple (by decide +kernel) rfl) pa_nil))))) (pw_or (pt_cmpR op_ne (pe_callB (id := "len") (r := Rd.nLen K) Rd.c_len (by rfl) T.n_len (by decide +kernel) (pa_cons (pv 2) pa_nil)) pe_int (nomark _)) (pw_or1 (pt_not (pt_val (pe_call (ok_is_letter T) (hr.mono (by decide)) rfl T.g_is_letter T.F_is_letter.kp T.b_is_letter .nil pass0 (pa_cons (pe_ix (r := rIxT K) ix_tup (pv 2) pe_int (fun _ _ => rfl)) pa_nil))))))))
  (pss_one (ps_ret pe_bl))
  pss_nil)
  (pss_cons (ps_if (pt_not (pt_val (pe_callB (id := "all") (r := rAll K) (cr_all rfl) (by rfl) T.n_all (by decide +kernel) (pa_cons (pe_lc (own := [("name", 3)]) (g := gName 3) (tt := tYes) rfl sc_is_road.nd (pi_tup (pe_tup (pa_cons (pe_ix (r := rIxT K) ix_tup (pv 2) pe_int (fun _ _ => rfl)) (pa_cons (pe_ix (r := rIxT K) ix_tup (pv 2) pe_int (fun _ _ => rfl)) pa_nil)))) (blkOk_by (own := [("name", 3)]) (N := ["reckoning", "places", "road", "name"]) (sc := defScope s_is_road) (by decide +kernel)) (fun _ _ _ _ _ => (pg_name (i := 3) sc_is_road.nd rfl (.inl rfl))) (fun _ _ _ _ _ => pts_nil) (fun _ _ _ _ _ => (pe_and (pe_callB (id := "isinstance") (r := rIsi K) call_isi (by rfl) T.n_isinstance (by decide +kernel) (pa_cons (pv 3) (pa_cons (pe_bltn (v := .ty "str") (u := .type "str") (by rfl) T.n_str (by decide +kernel) rfl) pa_nil))) (pe_one (pe_cmpR (r := rIn K false) op_in_seq (pv 3) (pv 1) (by rfl)))))) pa_nil))))
  (pss_one (ps_ret pe_bl))
  pss_nil)
  (pss_one (ps_ret (pe_and (Rq.pe_or (pe_meth (pv 0) T.cl_Reckoning T.h_Reckoning_is_worth (ok_Reckoning_is_worth T) (hr.mono (by decide)) T.b_Reckoning_is_worth .nil pass0 (pa_cons (pe_ix (r := rIxT K) ix_tup (pv 2) pe_int (fun _ _ => rfl)) pa_nil)) (Rq.pe_or (pe_meth (pv 0) T.cl_Lengths T.h_Lengths_is_worth (ok_Lengths_is_worth T) (hr.mono (by decide)) T.b_Lengths_is_worth .nil pass0 (pa_cons (pe_ix (r := rIxT K) ix_tup (pv 2) pe_int (fun _ _ => rfl)) pa_nil)) (pe_meth (pv 0) T.cl_Numbers T.h_Numbers_is_worth (ok_Numbers_is_worth T) (hr.mono (by decide)) T.b_Numbers_is_worth .nil pass0 (pa_cons (pe_ix (r := rIxT K) ix_tup (pv 2) pe_int (fun _ _ => rfl)) pa_nil)))) (pe_one (pe_cmpR (r := NeNone K T.C_Ratio) (Ro.op_or op_ne (Ro.op_or (Ro.op_one (E := E0) ⟨T.h_Ratio_eq.at_, T.h_Ratio_eq.fn, T.ne_Ratio, T.ty_Ratio.hm⟩ (ok_Ratio_eq T) T.b_Ratio_eq pass0 (hr.mono (by decide))) (Bv.op_in (E := E0) ⟨T.h_Ratio_eq.at_, T.h_Ratio_eq.fn, T.ne_Ratio, T.ty_Ratio.hm⟩ T.ki_Ratio (ok_Ratio_eq T) T.b_Ratio_eq pass0 (hr.mono (by decide))))) (pe_ix (r := rIxT K) ix_tup (pv 2) pe_int (fun _ _ => rfl)) (pe_fld (pv 0) rfl) (nomark _)))))))), ?_⟩
    walk_at "rd"
    refine Rd.isi (Ru.ty_T (.of ha)) (by decide +kernel : kitB "tuple" "tuple" = some true) ?_
    walk_at "rd"
    refine Rd.len (.inr (.of ha)) ?_
    walk_at "rd"
    refine Rd.yes rfl ?_
    walk_at "rd"
    refine Rd.ixT (.of ha) (atI_nat (j := 1) rfl) ?_
    walk_at "rd"
    refine .inl ⟨r.1.2.1, rfl, by have := ok.let1.2; omega, fun b1 H1 hb s1 => ?_⟩
    obtain rfl : b1 = true := hb.mpr ok.let1
    walk_at "rd"
    refine Rd.ixT (.of (s1 _ _ ha)) (atI_nat (j := 0) rfl) ?_
    walk_at "rd"
    refine Rd.ixT (.of (s1 _ _ ha)) (atI_nat (j := 2) rfl) ?_
    walk_at "rd"
    refine ⟨Nat.le_of_ble_eq_true rfl, Rd.new fun tp G np gp s2 => ?_⟩
    have s02 := s1.trans s2
    walk_at "rd"
    refine ⟨⟨_, .of gp⟩, Rd.lcS walk_tup (fun _ s => .of (s _ _ gp)) (fun D i acc _ => acc = (List.replicate i true).map V.bl) (fun _ _ _ _ _ => rfl) ?_ ?_⟩
    · rintro D i w _ G2 acc nD hi hD sm rfl ⟨rfl, hw⟩
      have hwn : ∃ z, w = .str z ∧ z ∈ ns := by
        have m := List.mem_of_getElem? hw
        rcases List.mem_cons.mp m with rfl | m
        · exact ⟨_, rfl, ok.frm⟩
        · rw [List.mem_singleton.mp m]
          exact ⟨_, rfl, ok.to⟩
      obtain ⟨z, rfl, zn⟩ := hwn
      walk_at "rd"
      refine ⟨rfl, ?_⟩
      walk_at "rd"
      refine Rd.isiStr ?_
      walk_at "rd"
      refine Rd.inStrsY (.inr (.of (sm _ _ (s02 _ _ hp)))) ?_
      rw [decide_eq_true zn]
      have il : i < 2 := hi
      refine Rd.lcPush hD nD sm (by rw [List.length_map, List.length_replicate, sizeLine_eq]; omega) fun G _ _ => ?_
      rw [List.replicate_succ', List.map_append]
      rfl
    · rintro D acc G2 nD hD sm rfl
      have s03 := s02.trans sm
      have ha3 := s03 _ _ ha
      have hR3 := hR.same s03
      have hx3 := hx.same s03
      obtain ⟨wk, hwk, okk⟩ := hx3.ok (t := 0) ok.has
      walk_at "rd"
      refine Rd.all (.of hD) ?_
      walk_at "rd"
      refine Rd.yes rfl ?_
      walk_at "rd"
      cases wd with
      | len =>
        obtain ⟨dx, e⟩ := id hR3
        refine .inr (.inl ?_)
        walk_at "rd"
        refine Rd.meth e rfl ?_
        walk_at "rd"
        refine Rd.ixT (.of ha3) (atI_nat (j := 3) rfl) ?_
        refine ⟨b, x, wk.kind, rfl, hwk.isX T, ?_⟩
        rw [show okL wk.kind = true from okk]
        walk_at "rd"
        refine Rd.ixT (.of ha3) (atI_nat (j := 3) rfl) ?_
        walk_at "rd"
        refine hR3.fnone T fun y0 hy0 => ?_
        exact ne_none T (b := b) hx3 hy0 ok.has ok.ne (k _ s03)
      | num =>
        obtain ⟨dx, _, _, e, _⟩ := id hR3
        refine .inr (.inr ?_)
        walk_at "rd"
        refine Rd.meth e rfl ?_
        walk_at "rd"
        refine Rd.ixT (.of ha3) (atI_nat (j := 3) rfl) ?_
        refine ⟨b, x, wk.num, rfl, hwk.numB T, ?_⟩
        rw [show wk.num = true from okk]
        walk_at "rd"
        refine Rd.ixT (.of ha3) (atI_nat (j := 3) rfl) ?_
        walk_at "rd"
        refine hR3.fnone T fun y0 hy0 => ?_
        exact ne_none T (b := b) hx3 hy0 ok.has ok.ne (k _ s03)
      | rk n J M z o =>
        have h : RkAt K T.C_Reckoning G2 b n J M z o := hR3
        obtain ⟨dx, _, _, _, _, _, e, _⟩ := id h
        refine .inl ?_
        walk_at "rd"
        refine Rd.meth e rfl ?_
        walk_at "rd"
        refine Rd.ixT (.of ha3) (atI_nat (j := 3) rfl) ?_
        refine ⟨b, n, z, o, x, wk.kind, J, M, rfl, h, hwk.isX T, ?_⟩
        rw [show okR n wk.kind = true from okk]
        walk_at "rd"
        refine Rd.ixT (.of ha3) (atI_nat (j := 3) rfl) ?_
        walk_at "rd"
        refine hR3.fnone T fun y0 hy0 => ?_
        exact ne_none T (b := b) hx3 hy0 ok.has ok.ne (k _ s03)
def sp_checked_roads (K : PySem.W.Frag) (CK CL CN CT CR CB CM : Addr) : Sp := fun vs H Q _ => ∃ (b p a : Addr) (xs : List V) (wd : Wd) (ns : List Str) (rs : List (Rk3 × Pv)), vs = [.ref b, .ref p, .ref a] ∧ ReAt K CK CL CN CR H b wd ∧ H p = some (.tup (ns.map V.str)) ∧ (∀ z ∈ ns, Lt.Wd 8 z) ∧ SqL K H a xs ∧ Paired (RoadH CR H) xs rs ∧ RoadsOk wd ns rs ∧
  ∀ d kvs H', H' d = some (.dT kvs) → Paired (RoadK CR H') kvs rs → Same H H' → Q (.ref d) H'
theorem paired_keys {C : Addr} {H : Hp} : ∀ {kvs : List (List Key × V)} {rs : List (Rk3 × Pv)}, Paired (RoadK C H) kvs rs → ∀ k, k ∉ rs.map (·.1) → valV kvs (key3 k) = none
  | _, _, .nil, _, _ => rfl
  | _, _, .cons h r, k, n => by
    rw [valV_neg (fun e => n (List.mem_map.mpr ⟨_, List.mem_cons_self, key3_inj (h.1.symm.trans e)⟩))]
    exact paired_keys r k fun m => n (List.mem_cons_of_mem _ m)
theorem pk_map {C : Addr} {H H' : Hp} (f : ∀ kv r, RoadK C H kv r → RoadK C H' kv r) : ∀ {kvs : List (List Key × V)} {rs : List (Rk3 × Pv)}, Paired (RoadK C H) kvs rs → Paired (RoadK C H') kvs rs
  | _, _, .nil => .nil
  | _, _, .cons h r => .cons (f _ _ h) (pk_map f r)
theorem RoadK.off {C D : Addr} {u : HO} {H H' : Hp} {kv : List Key × V} {r : Rk3 × Pv} (hD : H D = some u) (ni : ∀ C dx fs, u ≠ .ins C dx fs) (off : ∀ b, b ≠ D → H' b = H b) (h : RoadK C H kv r) : RoadK C H' kv r := by
  obtain ⟨e, p⟩ := h
  refine ⟨e, ?_⟩
  obtain ⟨r1, v⟩ := r
  cases v with
  | non => exact p
  | int i => exact p
  | rat q =>
    obtain ⟨b, e, dx, hb⟩ := p
    refine ⟨b, e, dx, ?_⟩
    rw [off b (fun z => by rw [z, hD] at hb; exact ni _ _ _ (Option.some.inj hb))]
    exact hb
theorem ok_checked_roads (T : Txt K mg) : FnOk P w K mg base CX0 8 T.f_checked_roads T.fd_checked_roads ["reckoning", "places", "roads"] (sp_checked_roads K T.C_Reckoning T.C_Lengths T.C_Numbers T.C_Tongues T.C_Ratio T.C_BadReckoning T.C_BadWeb) := by
  refine T.F_checked_roads.ok sc_checked_roads (fun vs H Q E h => ?_) (fun cdv A outer s H vs Q E hr h => ?_)
  · obtain ⟨b, p, a, xs, wd, ns, rs, rfl, _⟩ := h
    rfl
  · obtain ⟨b, p, a, xs, wd, ns, rs, rfl, hR, hp, nm, ha, pr, ok, k⟩ := h
    have xl := Paired.length pr
    have l80 := ok.l80
    refine ⟨_, (pss_cons (ps_if (PW.pt (pw_or (pt_not (pt_val (pe_callB (id := "isinstance") (r := rIsiT K) call_isiT (by rfl) T.n_isinstance (by decide +kernel) (pa_cons (pv 2) (pa_cons (pe_tup (pa_cons (pe_bltn (v := .ty "list") (u := .type "list") (by rfl) T.n_list (by decide +kernel) rfl) (pa_cons (pe_bltn (v := .ty "tuple") (u := .type "tuple") (by rfl) T.n_tuple (by decide +kernel) rfl) pa_nil))) pa_nil))))) (pw_or1 (pt_cmpR op_gt (pe_callB (id := "len") (r := Rd.nLen K) Rd.c_len (by rfl) T.n_len (by decide +kernel) (pa_cons (pv 2) pa_nil)) (pe_glob (v := .int 80) rfl T.m_MOST_ROADS ⟨_, rfl⟩) (nomark _)))))
  (pss_one ps_never)
  pss_nil)
  (pss_cons (ps_set (i := 3) sc_checked_roads.nd rfl (.inl rfl) pe_dnewT)
  (pss_cons (ps_for PassesOwn.never rfl (pi_enum (by rfl) T.n_enumerate (pa_cons (pv 2) pa_nil)) (pg_tup rfl (pgs_cons (pg_name (i := 4) sc_checked_roads.nd rfl (.inl rfl)) (pgs_cons (pg_name (i := 5) sc_checked_roads.nd rfl (.inl rfl)) pgs_nil)))
  (pss_cons (ps_if (PW.pt (pw_or (pt_not (pt_val (pe_call (ok_is_road T) (hr.mono (by decide)) rfl T.g_is_road T.F_is_road.kp T.b_is_road .nil pass0 (pa_cons (pv 0) (pa_cons (pv 1) (pa_cons (pv 5) pa_nil)))))) (pw_or1 (pt_cmp (pc_din (hu_of hr) (pe_slice (r := rSlT K) sl_tup (pv 5) po_none (po_some pe_int)) (pv 3))))))
  (pss_one ps_never)
  pss_nil)
  (pss_one (ps_asg (pe_call (ok_plain_worth T) (hr.mono (by decide)) rfl T.g_plain_worth T.F_plain_worth.kp T.b_plain_worth .nil pass0 (pa_cons (pv 0) (pa_cons (pe_ix (r := rIxT K) ix_tup (pv 5) pe_int (fun _ _ => rfl)) pa_nil))) (pg_sub (pv 3) (pe_slice (r := rSlT K) sl_tup (pv 5) po_none (po_some pe_int)) (set_dict (hu_of hr)))))))
  (pss_one (ps_ret (pv 3)))))), ?_⟩
    walk_at "rd"
    refine ⟨Nat.le_of_ble_eq_true rfl, Rd.new fun tp G np gp s1 => ?_⟩
    walk_at "rd"
    refine Ru.isRow (.inl (s1.seq ha)) gp ?_
    walk_at "rd"
    refine Rd.len (.inl (s1.seq ha)) ?_
    walk_at "rd"
    refine Rd.no (by omega) ?_
    walk_at "rd"
    refine Bt.dnewT fun d G2 nd gd s2 => ?_
    have s02 := s1.trans s2
    have dH : H d = none := s1.free nd
    walk_at "rd"
    refine Rd.forS ?_
    unfold iEnum
    walk_at "rd"
    refine ⟨a, _, rfl, s02.seq ha, Ru.for_enum (K := K) (a := a) (xs := xs) (fun i σ H' => (∃ o3 o5 : Option V, σ = [some (.ref b), some (.ref p), some (.ref a), some (.ref d), o3, o5]) ∧ Same H H' ∧ ∃ kvs, H' d = some (.dT kvs) ∧ Paired (RoadK T.C_Ratio H') kvs (rs.take i)) ⟨⟨_, _, rfl⟩, s02, [], gd, .nil⟩ (fun i σ H' _ e => e.2.1.seq ha) ?_ ?_⟩
    · rintro i y _ H' t hy ⟨⟨o3, o5, rfl⟩, sm, kvs, hd, pk⟩ hT
      obtain ⟨r, hr, road⟩ := prd_get pr hy
      have okr := ok.ok r (List.mem_of_getElem? hr)
      have sT := Rd.same_upd (o := .tup [.int (i : Nat), y]) hT
      have gt : upd H' t (.tup [.int (i : Nat), y]) t = _ := upd_same
      generalize upd H' t (.tup [.int (i : Nat), y]) = G3 at sT gt
      have s03 := sm.trans sT
      refine Rd.tupT (.of gt) rfl ?_
      walk_at "rd"
      refine ⟨b, p, y, wd, ns, r, rfl, hR.same s03, s03 _ _ hp, nm, road.same s03, okr, fun G4 s4 => ?_⟩
      have s04 := s03.trans s4
      obtain ⟨q, x, rfl, hq, hx⟩ := road.same s04
      have nk : r.1 ∉ (rs.take i).map (·.1) := by
        rw [List.map_take]
        have h1 : (rs.map (·.1))[i]? = some r.1 := by rw [List.getElem?_map, hr]; rfl
        exact Rd.nodup_take ok.nd h1
      have pk4 := pk_map (fun kv r h => (h.same sT).same s4) pk
      have vn := paired_keys pk4 r.1 nk
      have hd4 := s4 _ _ (sT _ _ hd)
      have kl := Paired.length pk4
      rw [List.length_take] at kl
      walk_at "rd"
      refine Rw.slT (.of hq) (fun e => absurd (show (3 : Nat) = 4 from e.2) (by decide)) (Rd.new fun c1 G5 n5 g5 s5 => ?_)
      have g5 : G5 c1 = some (.tup ((key3 r.1).map kV)) := g5
      walk_at "rd"
      have hd5 := s5 _ _ hd4
      refine ⟨d, _, rfl, DGet.t hd5 g5, ?_⟩
      rw [vn]
      walk_at "rd"
      refine Rd.no Bool.false_ne_true ?_
      walk_at "rd"
      have s05 := s04.trans s5
      refine Rd.ixT (.of (s5 _ _ hq)) (atI_nat (j := 3) rfl) ?_
      refine ⟨b, x, wd, r.2, rfl, hR.same s05, okr.has, hx.same s5, fun z G6 hz s6 => ?_⟩
      have s06 := s05.trans s6
      walk_at "rd"
      refine Rw.slT (.of (s6 _ _ (s5 _ _ hq))) (fun e => absurd (show (3 : Nat) = 4 from e.2) (by decide)) (Rd.new fun c2 G7 n7 g7 s7 => ?_)
      have g7 : G7 c2 = some (.tup ((key3 r.1).map kV)) := g7
      have hd7 := s7 _ _ (s6 _ _ hd5)
      have s07 := s06.trans s7
      refine ⟨d, _, rfl, DPut.t hd7 g7 (by rw [sizeLine_eq]; omega), ?_⟩
      rw [putK_new z vn]
      have off : ∀ c, c ≠ d → upd G7 d (.dT (kvs ++ [(key3 r.1, z)])) c = G7 c := fun c n => upd_ne n
      have gd : upd G7 d (.dT (kvs ++ [(key3 r.1, z)])) d = _ := upd_same
      generalize upd G7 d (.dT (kvs ++ [(key3 r.1, z)])) = G8 at off gd
      walk_at "rd"
      refine ⟨⟨_, _, rfl⟩, fun c o e => by rw [off c (ne_of_none e dH)]; exact s07 _ _ e, _, gd, ?_⟩
      rw [Rd.take_snoc hr]
      exact Paired.snoc (pk_map (fun kv r h => (((h.same s5).same s6).same s7).off hd7 (fun _ _ _ e => nomatch e) off) pk4) (RoadK.off (H := G7) hd7 (fun _ _ _ e => nomatch e) off ⟨rfl, hz.same s7⟩)
    · rintro _ H' ⟨⟨o3, o5, rfl⟩, sm, kvs, hd, pk⟩
      rw [xl, List.take_length] at pk
      walk_at "rd"
      exact k d kvs H' hd pk sm
/-! ### the web -/
/-- a road as it is told: a tuple -/
def RoadT (C : Addr) (H : Hp) (y : V) (r : Rk3 × Pv) : Prop := ∃ (p : Addr) (x : V), y = .ref p ∧ H p = some (.tup [.str r.1.1, .str r.1.2.1, .str r.1.2.2, x]) ∧ ProI C H x r.2
theorem RoadT.same {C : Addr} {H H' : Hp} {y : V} {r : Rk3 × Pv} (s : Same H H') (h : RoadT C H y r) : RoadT C H' y r := let ⟨p, x, e, h, i⟩ := h; ⟨p, x, e, s _ _ h, i.same s⟩
theorem ProI.offN {C D : Addr} {u : HO} {H H' : Hp} {x : V} {v : Pv} (hD : H D = some u) (ni : ∀ C dx fs, u ≠ .ins C dx fs) (off : ∀ b, b ≠ D → H' b = H b) (h : ProI C H x v) : ProI C H' x v := (RoadK.off (kv := ([.inr "", .inr "", .inr ""], x)) (r := (("", "", ""), v)) hD ni off ⟨rfl, h⟩).2
theorem RoadT.off {C D : Addr} {u : HO} {H H' : Hp} {y : V} {r : Rk3 × Pv} (hD : H D = some u) (ni : ∀ C dx fs, u ≠ .ins C dx fs) (nt : ∀ xs, u ≠ .tup xs) (off : ∀ b, b ≠ D → H' b = H b) (h : RoadT C H y r) : RoadT C H' y r := by
  obtain ⟨p, x, e, h, i⟩ := h
  exact ⟨p, x, e, by rw [off p (fun z => by rw [z, hD] at h; exact nt _ (Option.some.inj h))]; exact h, i.offN hD ni off⟩
def WebAt (K : PySem.W.Frag) (CK CL CN CR CW : Addr) (H : Hp) (b : Addr) (wd : Wd) (ns : List Str) (rs : List (Rk3 × Pv)) : Prop := ∃ (dx re p kd ro : Addr) (kvs : List (List Key × V)) (xs : List V), H b = some (.ins CW dx [("reckoning", .ref re), ("places", .ref p), ("kept", .ref kd), ("roads", .ref ro)]) ∧
  ReAt K CK CL CN CR H re wd ∧ H p = some (.tup (ns.map V.str)) ∧ H kd = some (.dT kvs) ∧ Paired (RoadK CR H) kvs rs ∧ H ro = some (.tup xs) ∧ Paired (RoadT CR H) xs rs
theorem WebAt.same {CK CL CN CR CW b : Addr} {H H' : Hp} {wd : Wd} {ns : List Str} {rs : List (Rk3 × Pv)} (s : Same H H') (h : WebAt K CK CL CN CR CW H b wd ns rs) : WebAt K CK CL CN CR CW H' b wd ns rs := by
  obtain ⟨dx, re, p, kd, ro, kvs, xs, h0, h1, h2, h3, h4, h5, h6⟩ := h
  exact ⟨dx, re, p, kd, ro, kvs, xs, s _ _ h0, h1.same s, s _ _ h2, s _ _ h3, pk_map (fun _ _ h => h.same s) h4, s _ _ h5, paired_map (fun _ _ h => h.same s) h6⟩
def sp_Web_init (K : PySem.W.Frag) (CK CL CN CT CR CB CM CW : Addr) : Sp := fun vs H Q _ => ∃ (b re a c : Addr) (xs : List V) (wd : Wd) (ns : List Str) (rs : List (Rk3 × Pv)), vs = [.ref b, .ref re, .ref a, .ref c] ∧ (∃ dx, H b = some (.ins CW dx [])) ∧ ReAt K CK CL CN CR H re wd ∧ SqL K H a (ns.map V.str) ∧ NamesOk ns ∧ SqL K H c xs ∧ Paired (RoadH CR H) xs rs ∧ RoadsOk wd ns rs ∧
  ∀ H', WebAt K CK CL CN CR CW H' b wd ns rs → Rd.But b H H' → Q .non H'
theorem catT3 {H : Hp} {a b : Addr} {xs ys : List V} {Q : VK} (h1 : SqT K H a xs) (h2 : SqT K H b ys) (n : xs ≠ []) (n2 : ys ≠ []) (l : xs.length + ys.length ≤ sizeLine) (h : Rd.NewQ (.tup (xs ++ ys)) Q H) : rCatT K (.ref a) (.ref b) H Q :=
  ⟨a, b, xs, ys, rfl, rfl, h1, h2, n, l, by first | exact ⟨fun e => absurd e n2, fun _ => h⟩ | exact h | (rw [if_neg n2]; exact h)⟩
/-- the fields of a web that is being made -/
def Fr (fs : List (Str × V)) : Prop := ∀ f v r, fs = (f, v) :: r → f = "reckoning"
theorem Fr.nil : Fr [] := fun _ _ _ e => nomatch e
theorem Fr.cons {v : V} {r : List (Str × V)} : Fr (("reckoning", v) :: r) := fun _ _ _ e => by cases e; rfl
section
variable {H G : Hp} {b CW dx : Addr} {fs : List (Str × V)} (hb : H b = some (.ins CW dx fs)) (fr : Fr fs) (off : ∀ c, c ≠ b → G c = H c)
include hb fr off
theorem ins_fr {x C' dx' : Addr} {f : Str} {v : V} {r : List (Str × V)} (hn : f ≠ "reckoning") (h : H x = some (.ins C' dx' ((f, v) :: r))) : G x = some (.ins C' dx' ((f, v) :: r)) := by
  rw [off x (fun e => by rw [e, hb] at h; cases h; exact hn (fr _ _ _ rfl))]
  exact h
theorem tup_fr {x : Addr} {ys : List V} (h : H x = some (.tup ys)) : G x = some (.tup ys) := by
  rw [off x (ne_of h hb (fun e => nomatch e))]
  exact h
theorem dT_fr {x : Addr} {ys : List (List Key × V)} (h : H x = some (.dT ys)) : G x = some (.dT ys) := by
  rw [off x (ne_of h hb (fun e => nomatch e))]
  exact h
theorem RatAt.offB {C x : Addr} {r : Rat} (h : RatAt C H x r) : RatAt C G x r := by
  obtain ⟨d, h⟩ := h
  exact ⟨d, ins_fr hb fr off (by decide) h⟩
theorem HdI.offB {C : Addr} {x : V} {v : Pv} (h : HdI C H x v) : HdI C G x v := by
  cases v with
  | non => exact h
  | int i => exact h
  | rat r =>
    rcases (show NumAt C H x r from h) with ⟨a, rfl, h2⟩ | ⟨i, e, h2⟩
    · exact .inl ⟨a, rfl, RatAt.offB hb fr off h2⟩
    · exact .inr ⟨i, e, h2⟩
theorem ProI.offB {C : Addr} {x : V} {v : Pv} (h : ProI C H x v) : ProI C G x v := by
  cases v with
  | non => exact h
  | int i => exact h
  | rat r => obtain ⟨a, e, h⟩ := h; exact ⟨a, e, h.offB hb fr off⟩
theorem RoadH.offB {C : Addr} {y : V} {r : Rk3 × Pv} (h : RoadH C H y r) : RoadH C G y r := let ⟨p, x, e, h, i⟩ := h; ⟨p, x, e, tup_fr hb fr off h, i.offB hb fr off⟩
theorem RoadT.offB {C : Addr} {y : V} {r : Rk3 × Pv} (h : RoadT C H y r) : RoadT C G y r := let ⟨p, x, e, h, i⟩ := h; ⟨p, x, e, tup_fr hb fr off h, i.offB hb fr off⟩
theorem RoadK.offB {C : Addr} {kv : List Key × V} {r : Rk3 × Pv} (h : RoadK C H kv r) : RoadK C G kv r := ⟨h.1, h.2.offB hb fr off⟩
theorem ReAt.offB {CK CL CN CR re : Addr} {wd : Wd} (h : ReAt K CK CL CN CR H re wd) : ReAt K CK CL CN CR G re wd := by
  cases wd with
  | len => obtain ⟨d, h⟩ := h; exact ⟨d, ins_fr hb fr off (by decide) h⟩
  | num => obtain ⟨d, n, o, h, hn, ho⟩ := h; exact ⟨d, n, o, ins_fr hb fr off (by decide) h, hn.offB hb fr off, ho.offB hb fr off⟩
  | rk n J M z o =>
    obtain ⟨d, j, p, m, l, r, h0, h1, h2, h3, h4, h5⟩ := h
    exact ⟨d, j, p, m, l, r, ins_fr hb fr off (by decide) h0, tbl_but hb off h1, tbl_but hb off h2, tblL_but hb off h3, tblL_but hb off h4, tblL_but hb off h5⟩
theorem sqL_fr {x : Addr} {ys : List V} (h : SqL K H x ys) : SqL K G x ys := by
  rcases h with (h | ⟨o, h⟩) | h
  · exact .inl (.inl (by rw [off x (ne_of h hb (fun e => nomatch e))]; exact h))
  · exact .inl (.inr ⟨o, by rw [off x (ne_of h hb (fun e => nomatch e))]; exact h⟩)
  · exact .inr h
end
theorem pk_get {C : Addr} {H : Hp} : ∀ {kvs : List (List Key × V)} {rs : List (Rk3 × Pv)}, Paired (RoadK C H) kvs rs → ∀ {i : Nat} {k : List Key} {v : V}, kvs[i]? = some (k, v) → ∃ r, rs[i]? = some r ∧ k = key3 r.1 ∧ ProI C H v r.2
  | _, _, .nil, _, _, _, e => nomatch e
  | _, _, .cons h _, 0, _, _, e => by
    cases e
    exact ⟨_, rfl, h⟩
  | _, _, .cons _ r, i + 1, _, _, e => pk_get r (i := i) e
theorem ok_Web_init (T : Txt K mg) : FnOk P w K mg base CX0 9 T.f_Web_init T.fd_Web_init ["self", "reckoning", "places", "roads"] (sp_Web_init K T.C_Reckoning T.C_Lengths T.C_Numbers T.C_Tongues T.C_Ratio T.C_BadReckoning T.C_BadWeb T.C_Web) := by
  refine T.F_Web_init.ok sc_Web_init (fun vs H Q E h => ?_) (fun cdv A outer s H vs Q E hr h => ?_)
  · obtain ⟨b, re, a, c, xs, wd, ns, rs, rfl, _⟩ := h
    rfl
  · obtain ⟨b, re, a, c, xs, wd, ns, rs, rfl, ⟨dx, hb⟩, hR, ha, nok, hc, pr, rok, k⟩ := h
    have l80 := rok.l80
    refine ⟨_, (pss_cons (ps_expr (pe_call (ok_check_reckoning T) (hr.mono (by decide)) rfl T.g_check_reckoning T.F_check_reckoning.kp T.b_check_reckoning .nil passL (pa_cons (pv 1) pa_nil)))
  (pss_cons (ps_fld (pv 0) (pv 1) rfl)
  (pss_cons (ps_fld (pv 0) (pe_call (ok_checked_places T) (hr.mono (by decide)) rfl T.g_checked_places T.F_checked_places.kp T.b_checked_places .nil pass0 (pa_cons (pv 2) pa_nil)) rfl)
  (pss_cons (ps_fld (pv 0) (pe_call (ok_checked_roads T) (hr.mono (by decide)) rfl T.g_checked_roads T.F_checked_roads.kp T.b_checked_roads .nil pass0 (pa_cons (pv 1) (pa_cons (pe_fld (pv 0) rfl) (pa_cons (pv 3) pa_nil)))) rfl)
  (pss_one (ps_fld (pv 0) (pe_callTy (T := "tuple") (r := Rd.nTupOf K) Rd.c_tupOf (by rfl) T.n_tuple (by decide +kernel) (pa_cons (pe_lock (pe_lc (own := [("key", 4), ("worth", 5)]) (g := gTup K 2 (gCons (gName 4) (gCons (gName 5) gNil))) (tt := tYes) rfl sc_Web_init.nd (Bt.pi_itemsT (pe_fld (pv 0) rfl)) (blkOk_by (own := [("key", 4), ("worth", 5)]) (N := ["self", "reckoning", "places", "roads", "key", "worth"]) (sc := defScope s_Web_init) (by decide +kernel)) (fun _ _ _ _ _ => (pg_tup rfl (pgs_cons (pg_name (i := 4) sc_Web_init.nd rfl (.inl rfl)) (pgs_cons (pg_name (i := 5) sc_Web_init.nd rfl (.inl rfl)) pgs_nil)))) (fun _ _ _ _ _ => pts_nil) (fun _ _ _ _ _ => (pe_op (r := rCatT K) op_catT (pv 4) (pe_tup (pa_cons (pv 5) pa_nil)))))) pa_nil)) rfl)))))), ?_⟩
    walk_at "rd"
    refine ⟨_, rfl, .inl ⟨re, wd, rfl, hR, fun H1 s1 => ?_⟩⟩
    walk_at "rd"
    refine Rd.sfld (s1 _ _ hb) T.cl_Web T.na_Web_reckoning (by decide) (show _ = [(("reckoning" : Str), V.ref re)] from rfl) fun G2 g2 off2 => ?_
    have hb1 := s1 _ _ hb
    have b2 : Rd.But b H G2 := fun x o nx e => by rw [off2 x nx]; exact s1 _ _ e
    have hR2 := (hR.same s1).offB hb1 .nil off2
    have ha2 := sqL_fr hb1 .nil off2 (s1.seq ha)
    have hc2 := sqL_fr hb1 .nil off2 (s1.seq hc)
    have pr2 := paired_map (fun _ _ h => (h.same s1).offB hb1 .nil off2) pr
    clear hR ha hc pr hb1 off2 s1
    walk_at "rd"
    refine ⟨a, ns, rfl, ha2, nok, fun p H3 hp s3 => ?_⟩
    have hb3 := s3 _ _ g2
    walk_at "rd"
    refine Rd.sfld hb3 T.cl_Web T.na_Web_places (by simp) (show _ = [(("reckoning" : Str), V.ref re), ("places", .ref p)] from rfl) fun G4 g4 off4 => ?_
    have b4 : Rd.But b H G4 := fun x o nx e => by rw [off4 x nx]; exact s3 _ _ (b2 x o nx e)
    have hR4 := (hR2.same s3).offB hb3 .cons off4
    have hc4 := sqL_fr hb3 .cons off4 (s3.seq hc2)
    have pr4 := paired_map (fun _ _ h => (h.same s3).offB hb3 .cons off4) pr2
    have hp4 := tup_fr hb3 .cons off4 hp
    clear hR2 ha2 hc2 pr2 hb3 off4 s3 b2 hp g2
    walk_at "rd"
    refine Rd.fld g4 T.cl_Web T.na_Web_places rfl ?_
    walk_at "rd"
    refine ⟨re, p, c, xs, wd, ns, rs, rfl, hR4, hp4, nok.nm, hc4, pr4, rok, fun kd kvs H5 hk pk s5 => ?_⟩
    have hb5 := s5 _ _ g4
    have kl := Paired.length pk
    walk_at "rd"
    refine Rd.sfld hb5 T.cl_Web T.na_Web_kept (by simp) (show _ = [(("reckoning" : Str), V.ref re), ("places", .ref p), ("kept", .ref kd)] from rfl) fun G6 g6 off6 => ?_
    have b6 : Rd.But b H G6 := fun x o nx e => by rw [off6 x nx]; exact s5 _ _ (b4 x o nx e)
    have hR6 := (hR4.same s5).offB hb5 .cons off6
    have hp6 := tup_fr hb5 .cons off6 (s5 _ _ hp4)
    have hk6 := dT_fr hb5 .cons off6 hk
    have pk6 := pk_map (fun _ _ h => h.offB hb5 .cons off6) pk
    clear hR4 hc4 pr4 hb5 off6 s5 b4 hp4 g4 hk pk
    walk_at "rd"
    refine Rw.lockE hk6 trivial fun od G7 gk off7 => ?_
    have hb7 : G7 b = _ := (off7 b (fun e => by rw [e, hk6] at g6; cases g6)).trans g6
    have pk7 := pk_map (fun _ _ h => h.off hk6 (fun _ _ _ e => nomatch e) off7) pk6
    walk_at "rd"
    refine Bt.itemsTH ?_
    walk_at "rd"
    refine Rd.fld hb7 T.cl_Web T.na_Web_kept rfl ?_
    refine ⟨kd, od, kvs, rfl, gk, Rd.lcS Bt.walk_itemsT (fun _ s => s _ _ gk) (fun D i acc G => Paired (RoadT T.C_Ratio G) acc (rs.take i)) (fun _ _ _ _ _ => .nil) ?_ ?_⟩
    · rintro D i y G _ acc nD hi hD sm pa ⟨t, q, kk, v, hkv, rfl, nt, hq, rfl⟩
      have al := Paired.length pa
      rw [List.length_take] at al
      obtain ⟨r, hr, ek, hv⟩ := pk_get pk7 hkv
      obtain rfl : kk = key3 r.1 := ek
      have sT := Rd.same_upd (o := .tup [.ref q, v]) nt
      have gt : upd G t (.tup [.ref q, v]) t = _ := upd_same
      generalize upd G t (.tup [.ref q, v]) = G2 at sT gt
      refine Rd.tupT (.of gt) rfl ?_
      walk_at "rd"
      refine ⟨rfl, ?_⟩
      walk_at "rd"
      refine ⟨Nat.le_of_ble_eq_true rfl, Rd.new fun p1 G3 n1 g1 s1 => ?_⟩
      refine catT3 (.of (s1 _ _ (sT _ _ hq))) (.of g1) (fun e => nomatch e) (fun e => nomatch e) (Nat.le_of_ble_eq_true rfl) (Rd.new fun p2 G4 n2 g2 s2 => ?_)
      have hD4 := s2 _ _ (s1 _ _ (sT _ _ hD))
      have s4 := (sT.trans s1).trans s2
      refine Rd.lcPush hD4 nD ((sm.trans sT).trans (s1.trans s2)) (by rw [sizeLine_eq]; omega) fun G5 g5 off5 => ?_
      rw [Rd.take_snoc hr]
      exact Paired.snoc (paired_map (fun _ _ h => (h.same s4).off hD4 (fun _ _ _ e => nomatch e) (fun _ e => nomatch e) off5) pa) (RoadT.off hD4 (fun _ _ _ e => nomatch e) (fun _ e => nomatch e) off5 ⟨p2, v, rfl, g2, hv.same (sm.trans s4)⟩)
    · rintro D acc G nD hD sm pa
      rw [kl, List.take_length] at pa
      refine ⟨sm _ _ gk, ?_⟩
      have kD : D ≠ kd := fun e => by rw [e, gk] at nD; cases nD
      have off8 : ∀ c, c ≠ kd → upd G kd (.dT kvs) c = G c := fun c n => upd_ne n
      have hk8 : upd G kd (.dT kvs) kd = _ := upd_same
      have hD8 := (off8 D kD).trans hD
      have pa8 := paired_map (fun _ _ h => RoadT.off (sm _ _ gk) (fun _ _ _ e => nomatch e) (fun _ e => nomatch e) off8 h) pa
      have s68 : Same G6 (upd G kd (.dT kvs)) := fun c o e => by
        by_cases z : c = kd
        · rw [z, hk6] at e
          rw [z, hk8]
          exact e
        · rw [off8 c z]
          exact sm _ _ ((off7 c z).trans e)
      generalize upd G kd (.dT kvs) = G8 at off8 hk8 hD8 pa8 s68
      have pk8 := pk_map (fun _ _ h => h.same s68) pk6
      have hR8 := hR6.same s68
      have hp8 := s68 _ _ hp6
      have hb8 := s68 _ _ g6
      have b8 := b6.same s68
      walk_at "rd"
      refine Rd.tupOf (.of hD8) (Rd.new fun ro G9 n9 g9 s9 => ?_)
      have hb9 := s9 _ _ hb8
      walk_at "rd"
      refine Rd.sfld hb9 T.cl_Web T.na_Web_roads (by simp) rfl fun G10 g10 off10 => ?_
      refine k _ ⟨dx, re, p, kd, ro, kvs, acc, g10, (hR8.same s9).offB hb9 .cons off10, tup_fr hb9 .cons off10 (s9 _ _ hp8), dT_fr hb9 .cons off10 (s9 _ _ hk8), pk_map (fun _ _ h => (h.same s9).offB hb9 .cons off10) pk8, tup_fr hb9 .cons off10 g9, paired_map (fun _ _ h => (h.same s9).offB hb9 .cons off10) pa8⟩ fun x o nx e => ?_
      rw [off10 x nx]
      exact s9 _ _ (b8 x o nx e)

end
end W

namespace W
open PySem PySem.Spec PyProof.Rows L2
section
variable {P : Program} {w : World} {K : PySem.W.Frag} {mg : Str → Option Value} {base : Heap}
open Mr (Rk joined joined_lt metF leftF rightF topF)
/-! ### roads looked up -/
def lookR {κ : Type} [DecidableEq κ] (rs : List (κ × Pv)) (k : κ) : Option Pv := (rs.find? fun r => decide (r.1 = k)).map (·.2)
theorem lookR_nil {κ : Type} [DecidableEq κ] {k : κ} : lookR ([] : List (κ × Pv)) k = none := rfl
theorem lookR_pos {κ : Type} [DecidableEq κ] {r : κ × Pv} {rs : List (κ × Pv)} {k : κ} (e : r.1 = k) : lookR (r :: rs) k = some r.2 := by simp [lookR, List.find?_cons, e]
theorem lookR_neg {κ : Type} [DecidableEq κ] {r : κ × Pv} {rs : List (κ × Pv)} {k : κ} (e : ¬ r.1 = k) : lookR (r :: rs) k = lookR rs k := by simp [lookR, List.find?_cons, e]
theorem lookR_mem {κ : Type} [DecidableEq κ] {k : κ} {v : Pv} : ∀ {rs : List (κ × Pv)}, lookR rs k = some v → (k, v) ∈ rs
  | [], e => nomatch e
  | r :: rs, e => by
    by_cases c : r.1 = k
    · rw [lookR_pos c] at e
      cases e
      rw [← c]
      exact List.mem_cons_self
    · rw [lookR_neg c] at e
      exact List.mem_cons_of_mem _ (lookR_mem e)
theorem lookR_at {κ : Type} [DecidableEq κ] {k : κ} {v : Pv} : ∀ {rs : List (κ × Pv)}, (rs.map (·.1)).Nodup → (k, v) ∈ rs → lookR rs k = some v
  | [], _, m => nomatch m
  | r :: rs, nd, m => by
    have nd' := List.nodup_cons.mp nd
    rcases List.mem_cons.mp m with e | m
    · rw [← e]
      exact lookR_pos rfl
    · rw [lookR_neg (fun e => nd'.1 (List.mem_map.mpr ⟨(k, v), m, e.symm⟩))]
      exact lookR_at nd'.2 m
/-- what the dict tells at a key, and what the roads say -/
theorem valV_look {C : Addr} {H : Hp} {z : V} {d : Pv} (hz : ProI C H z d) (k : Rk3) : ∀ {kvs : List (List Key × V)} {rs : List (Rk3 × Pv)}, Paired (RoadK C H) kvs rs → ProI C H ((valV kvs (key3 k)).getD z) ((lookR rs k).getD d)
  | _, _, .nil => hz
  | (kk, v) :: kvs, r :: rs, .cons h t => by
    obtain ⟨e, p⟩ := h
    by_cases c : r.1 = k
    · rw [lookR_pos c, valV_pos (by rw [← c]; exact e)]
      exact p
    · rw [lookR_neg c, valV_neg (fun z => c (key3_inj (e.symm.trans z)))]
      exact valV_look hz k t
def Wd.road (wd : Wd) (rs : List (Rk3 × Pv)) (p l q : Str) : Pv := (lookR rs (p, l, q)).getD wd.noneP

end
end W

namespace W
open PySem PySem.Spec PyProof.Rows L2
section
variable {P : Program} {w : World} {K : PySem.W.Frag} {mg : Str → Option Value} {base : Heap}
open Mr (Rk joined joined_lt metF leftF rightF topF)
set_option exponentiation.threshold 10000
/-! ### roads between numbers, as the law keeps them -/
abbrev Ri3 := Nat × Str × Nat
def keyI (k : Ri3) : List Key := [.inl (k.1 : Nat), .inr k.2.1, .inl (k.2.2 : Nat)]
theorem keyI_inj {k j : Ri3} (h : keyI k = keyI j) : k = j := by
  obtain ⟨a, b, c⟩ := k
  obtain ⟨a', b', c'⟩ := j
  simp only [keyI, List.cons.injEq, Sum.inr.injEq, Sum.inl.injEq, and_true] at h
  obtain ⟨h1, rfl, h3⟩ := h
  obtain rfl : a = a' := by omega
  obtain rfl : c = c' := by omega
  rfl
def putR {κ : Type} [DecidableEq κ] (rs : List (κ × Pv)) (k : κ) (v : Pv) : List (κ × Pv) := if k ∈ rs.map (·.1) then rs.map (fun r => if r.1 = k then (r.1, v) else r) else rs ++ [(k, v)]
theorem putR_mem {κ : Type} [DecidableEq κ] {rs : List (κ × Pv)} {k : κ} {v : Pv} {r : κ × Pv} (m : r ∈ putR rs k v) : r = (k, v) ∨ r ∈ rs := by
  unfold putR at m
  split at m
  · obtain ⟨q, mq, e⟩ := List.mem_map.mp m
    by_cases c : q.1 = k
    · rw [if_pos c] at e
      exact .inl (by rw [← e, c])
    · rw [if_neg c] at e
      exact .inr (by rw [← e]; exact mq)
  · rcases List.mem_append.mp m with m | m
    · exact .inr m
    · exact .inl (List.mem_singleton.mp m)
theorem nodup_snoc {α : Type} {ws : List α} {y : α} (nd : ws.Nodup) (q : ¬ y ∈ ws) : (ws ++ [y]).Nodup := by
  rw [List.nodup_append]
  exact ⟨nd, by simp, fun a ma b mb e => q (by rw [List.mem_singleton.mp mb] at e; rw [← e]; exact ma)⟩
theorem putR_keys {κ : Type} [DecidableEq κ] {rs : List (κ × Pv)} {k : κ} {v : Pv} (nd : (rs.map (·.1)).Nodup) : ((putR rs k v).map (·.1)).Nodup := by
  unfold putR
  split
  · rw [List.map_map, show (((fun r : κ × Pv => r.1) ∘ fun r => if r.1 = k then (r.1, v) else r)) = fun r => r.1 from funext fun r => by
      show (if r.1 = k then (r.1, v) else r).1 = r.1
      split <;> rfl]
    exact nd
  · rename_i h
    rw [List.map_append]
    exact nodup_snoc nd h
theorem putR_len {κ : Type} [DecidableEq κ] {rs : List (κ × Pv)} {k : κ} {v : Pv} : (putR rs k v).length ≤ rs.length + 1 := by
  unfold putR
  split
  · rw [List.length_map]; omega
  · rw [List.length_append]; exact Nat.le_refl _
/-- a road in the law's dict -/
def RoadI (H : Hp) (kv : List Key × V) (r : Ri3 × Pv) : Prop := kv.1 = keyI r.1 ∧ RawI 10 H kv.2 r.2
theorem RoadI.same {H H' : Hp} {kv : List Key × V} {r : Ri3 × Pv} (s : Same H H') (h : RoadI H kv r) : RoadI H' kv r := ⟨h.1, h.2.same s⟩
theorem RoadI.tape {t c : Addr} {H H' : Hp} {kv : List Key × V} {r : Ri3 × Pv} (ht : Tape H t c) (off : Rd.But t H H') (h : RoadI H kv r) : RoadI H' kv r := ⟨h.1, h.2.tape ht off⟩
theorem RawI.offU {k : Nat} {H G : Hp} {D : Addr} {u : HO} {x : V} {v : Pv} (hD : H D = some u) (nt : ∀ xs, u ≠ .tup xs) (off : ∀ b, b ≠ D → G b = H b) (h : RawI k H x v) : RawI k G x v := by
  cases v with
  | non => exact h
  | int i => exact h
  | rat r => obtain ⟨a, t, b, e, h, r⟩ := h; exact ⟨a, t, b, e, by rw [off a (fun z => by rw [z, hD] at h; exact nt _ (Option.some.inj h))]; exact h, r⟩
theorem pi_map {P P' : (List Key × V) → (Ri3 × Pv) → Prop} (f : ∀ kv r, P kv r → P' kv r) : ∀ {kvs : List (List Key × V)} {rs : List (Ri3 × Pv)}, Paired P kvs rs → Paired P' kvs rs
  | _, _, .nil => .nil
  | _, _, .cons h r => .cons (f _ _ h) (pi_map f r)
theorem pi_get {P : (List Key × V) → (Ri3 × Pv) → Prop} : ∀ {kvs : List (List Key × V)} {rs : List (Ri3 × Pv)}, Paired P kvs rs → ∀ {i : Nat} {kv : List Key × V}, kvs[i]? = some kv → ∃ r, rs[i]? = some r ∧ P kv r
  | _, _, .nil, _, _, e => nomatch e
  | _, _, .cons h _, 0, _, e => by
    cases e
    exact ⟨_, rfl, h⟩
  | _, _, .cons _ r, i + 1, _, e => pi_get r (i := i) e
theorem pi_any {H : Hp} {k : Ri3} : ∀ {kvs : List (List Key × V)} {rs : List (Ri3 × Pv)}, Paired (RoadI H) kvs rs → ((kvs.any fun kv => decide (kv.1 = keyI k)) = true ↔ k ∈ rs.map (·.1))
  | _, _, .nil => by simp
  | kv :: kvs, r :: rs, .cons h t => by
    rw [List.any_cons, Bool.or_eq_true, pi_any t, List.map_cons, List.mem_cons, decide_eq_true_iff]
    refine or_congr ⟨fun e => ?_, fun e => ?_⟩ Iff.rfl
    · exact (keyI_inj (h.1.symm.trans e)).symm
    · rw [h.1, e]
theorem pi_put {H : Hp} {k : Ri3} {y : V} {v : Pv} (hy : RawI 10 H y v) {kvs : List (List Key × V)} {rs : List (Ri3 × Pv)} (p : Paired (RoadI H) kvs rs) : Paired (RoadI H) (putK kvs (keyI k) y) (putR rs k v) := by
  unfold putK putR
  by_cases c : k ∈ rs.map (·.1)
  · rw [if_pos ((pi_any p).mpr c), if_pos c]
    clear c
    induction p with
    | nil => exact .nil
    | @cons kv r kvs rs h t ih =>
      refine .cons ?_ ih
      show RoadI H (if kv.1 = keyI k then (kv.1, y) else kv) (if r.1 = k then (r.1, v) else r)
      by_cases e : r.1 = k
      · rw [if_pos e, if_pos (by rw [h.1, e])]
        exact ⟨h.1, hy⟩
      · rw [if_neg e, if_neg (fun z => e (keyI_inj (h.1.symm.trans z)))]
        exact h
  · rw [if_neg (fun z => c ((pi_any p).mp z)), if_neg c]
    exact Paired.snoc p ⟨rfl, hy⟩
theorem pi_val {H : Hp} {k : Ri3} : ∀ {kvs : List (List Key × V)} {rs : List (Ri3 × Pv)}, Paired (RoadI H) kvs rs → (valV kvs (keyI k) = none ∧ lookR rs k = none) ∨ ∃ y v, valV kvs (keyI k) = some y ∧ lookR rs k = some v ∧ RawI 10 H y v
  | _, _, .nil => .inl ⟨rfl, rfl⟩
  | (kk, y) :: kvs, r :: rs, .cons h t => by
    by_cases c : r.1 = k
    · exact .inr ⟨y, r.2, valV_pos (by rw [← c]; exact h.1), lookR_pos c, h.2⟩
    · rw [valV_neg (fun z => c (keyI_inj (h.1.symm.trans z))), lookR_neg c]
      exact pi_val t
structure RdOk (wd : Wd) (n : Nat) (r : Ri3 × Pv) : Prop where
  frm : r.1.1 < n
  to : r.1.2.2 < n
  let1 : Lt1 r.1.2.1
  has : wd.has r.2
  ne : r.2 ≠ wd.noneP
  fz : r.2.fz 42 43000
structure RdsOk (wd : Wd) (n : Nat) (rs : List (Ri3 × Pv)) : Prop where
  nd : (rs.map (·.1)).Nodup
  ok : ∀ r ∈ rs, RdOk wd n r
theorem RdsOk.nil {wd : Wd} {n : Nat} : RdsOk wd n [] := ⟨List.nodup_nil, fun _ m => nomatch m⟩
theorem RdsOk.put {wd : Wd} {n : Nat} {rs : List (Ri3 × Pv)} {k : Ri3} {v : Pv} (h : RdsOk wd n rs) (o : RdOk wd n (k, v)) : RdsOk wd n (putR rs k v) := ⟨putR_keys h.nd, fun r m => (putR_mem m).elim (fun e => by rw [e]; exact o) (h.ok r)⟩
/-- the law's dict of roads -/
def RdD (H : Hp) (d : Addr) (rs : List (Ri3 × Pv)) : Prop := ∃ kvs, H d = some (.dT kvs) ∧ Paired (RoadI H) kvs rs
theorem RdD.same {H H' : Hp} {d : Addr} {rs : List (Ri3 × Pv)} (s : Same H H') (h : RdD H d rs) : RdD H' d rs := let ⟨kvs, e, p⟩ := h; ⟨kvs, s _ _ e, pi_map (fun _ _ h => h.same s) p⟩
theorem RdD.tape {t c : Addr} {H H' : Hp} {d : Addr} {rs : List (Ri3 × Pv)} (ht : Tape H t c) (off : Rd.But t H H') (h : RdD H d rs) : RdD H' d rs := by
  obtain ⟨kvs, e, p⟩ := h
  have nt : d ≠ t := by
    obtain ⟨ns, x, y, z, u, _, g, _⟩ := ht
    exact ne_of e g (fun e => nomatch e)
  exact ⟨kvs, off _ _ nt e, pi_map (fun _ _ h => h.tape ht off) p⟩
/-- d[(p, l, q)] = y -/
theorem RdD.put {H : Hp} {d b : Addr} {rs : List (Ri3 × Pv)} {k : Ri3} {y : V} {v : Pv} {Q : Hp → Prop} (h : RdD H d rs) (hb : H b = some (.tup ((keyI k).map kV))) (hy : RawI 10 H y v) (l : rs.length < 1000) (q : ∀ G : Hp, RdD G d (putR rs k v) → (∀ c, c ≠ d → G c = H c) → Q G) : rSetD (.ref d) (.ref b) y H Q := by
  obtain ⟨kvs, e, p⟩ := h
  have kl := Paired.length p
  refine ⟨d, _, rfl, DPut.t e hb (by rw [sizeLine_eq]; omega), q _ ⟨_, upd_same, ?_⟩ fun c n => upd_ne n⟩
  have off : ∀ c, c ≠ d → upd H d (.dT (putK kvs (keyI k) y)) c = H c := fun c n => upd_ne n
  exact pi_map (fun _ _ h => ⟨h.1, h.2.offU e (fun _ z => nomatch z) off⟩) (pi_put hy p)
def sp_l_roads (K : PySem.W.Frag) : Sp := fun vs H Q _ => ∃ (t c n : Nat) (x : V) (wd : Wd) (z : Str), vs = [.ref t, x, .int (n : Nat), .str z] ∧ Tape H t c ∧ WoAt H x wd ∧ n ≤ 10 ∧ Lt.Let z ∧ z.length ≤ 26 ∧ ∀ d rs H', RdD H' d rs → RdsOk wd n rs → rs.length ≤ 80 → Tape H' t c → Rd.But t H H' → Q (.ref d) H'
theorem ok_l_roads (T : Txt K mg) : FnOk P w K mg base CX0 3 T.f_l_roads T.fd_l_roads ["_law_hand_here", "_law_world_here", "_law_many", "_law_letters"] (sp_l_roads K) := by
  refine T.F_l_roads.ok sc_l_roads (fun vs H Q E h => ?_) (fun cdv A outer s H vs Q E hr h => ?_)
  · obtain ⟨t, c, n, x, wd, z, rfl, _⟩ := h
    rfl
  · obtain ⟨t, c, n, x, wd, z, rfl, hT, hW, n10, zl, z26, k⟩ := h
    refine ⟨_, (pss_cons (ps_set (i := 4) sc_l_roads.nd rfl (.inl rfl) (pe_op op_add pe_int (pe_call (ok_l_draw T) (hr.mono (by decide)) rfl T.g_l_draw T.F_l_draw.kp T.b_l_draw .nil pass0 (pa_cons (pv 0) (pa_cons pe_int pa_nil)))))
  (pss_cons (ps_set (i := 5) sc_l_roads.nd rfl (.inl rfl) pe_dnewT)
  (pss_cons (ps_for PassesOwn.never rfl (pi_str (pv 3)) (pg_name (i := 6) sc_l_roads.nd rfl (.inl rfl))
  (pss_one (ps_for PassesOwn.never rfl (pi_range1 rfl T.n_range (pa_cons (pv 2) pa_nil)) (pg_name (i := 7) sc_l_roads.nd rfl (.inl rfl))
  (pss_one (ps_for PassesOwn.never rfl (pi_range1 rfl T.n_range (pa_cons (pv 2) pa_nil)) (pg_name (i := 8) sc_l_roads.nd rfl (.inl rfl))
  (pss_one (ps_if (PW.pt (pw_and (pt_cmpR op_lt (pe_call (ok_l_draw T) (hr.mono (by decide)) rfl T.g_l_draw T.F_l_draw.kp T.b_l_draw .nil pass0 (pa_cons (pv 0) (pa_cons pe_int pa_nil))) (pv 4) (nomark _)) (pw_and1 (pt_cmpR op_lt (pe_callB (id := "len") (r := _) call_len_dT (by rfl) T.n_len (by decide +kernel) (pa_cons (pv 5) pa_nil)) pe_int (nomark _)))))
  (pss_one (ps_asg (pe_call (ok_l_worth T) (hr.mono (by decide)) rfl T.g_l_worth T.F_l_worth.kp T.b_l_worth .nil pass0 (pa_cons (pv 0) (pa_cons (pv 1) pa_nil))) (pg_sub (pv 5) (pe_tup (pa_cons (pv 7) (pa_cons (pv 6) (pa_cons (pv 8) pa_nil)))) (set_dict (hu_of hr)))))
  pss_nil)))))))
  (pss_one (ps_ret (pv 5)))))), ?_⟩
    walk_at "rd"
    refine drawR hT (by decide) (by decide) fun sh H1 sh0 sh1 hT1 b1 => ?_
    walk_at "rd"
    refine Bt.dnewT fun d G2 nd gd s2 => ?_
    have dH : H d = none := b1.free (hT1.new nd).1 nd
    have dt := (hT1.new nd).1
    have dc := (hT1.new nd).2
    have hT2 := hT1.same s2
    have b2 := b1.same s2
    have r2 : RdD G2 d [] := ⟨[], gd, .nil⟩
    clear gd s2 nd b1 hT1
    walk_at "rd"
    let St : Hp → Prop := fun G => (∃ rs, RdD G d rs ∧ RdsOk wd n rs ∧ rs.length ≤ 80) ∧ Tape G t c ∧ Rd.But t H G
    have keep : ∀ {G G' : Hp}, Same G G' → St G → St G' := fun s ⟨⟨rs, h, o, l⟩, ht, hb⟩ => ⟨⟨rs, h.same s, o, l⟩, ht.same s, hb.same s⟩
    refine Rd.forS ?_
    walk_at "rd"
    refine for_it walk_str (fun i σ G => (∃ (o6 o7 o8 : Option V), σ = [some (.ref t), some x, some (.int (n : Nat)), some (.str z), some (.int (1 + sh)), some (.ref d), o6, o7, o8]) ∧ St G) ⟨⟨_, _, _, rfl⟩, ⟨[], r2, .nil, Nat.zero_le _⟩, hT2, b2⟩ (fun _ _ _ _ _ => trivial) ?_ ?_
    · rintro i y _ G _ hi ⟨⟨o6, o7, o8, rfl⟩, st⟩ ⟨rfl, ch, hc, rfl⟩
      have l1 : Lt1 ⟨#[ch]⟩ := ⟨Lt.Let.one (zl.char (i := i) (by simpa using hc)), rfl⟩
      walk_at "rd"
      refine Rd.forS ?_
      walk_at "rd"
      refine ⟨by omega, by omega, ?_⟩
      rw [Int.toNat_natCast]
      refine for_range (lo := 0) (n := n) (fun p σ G => (∃ (o7 o8 : Option V), σ = [some (.ref t), some x, some (.int (n : Nat)), some (.str z), some (.int (1 + sh)), some (.ref d), some (.str ⟨#[ch]⟩), o7, o8]) ∧ St G) ⟨⟨_, _, rfl⟩, st⟩ ?_ ?_
      · rintro p _ G hp ⟨⟨o7, o8, rfl⟩, st⟩
        rw [show 0 + (p : Int) = (p : Nat) from Int.zero_add _]
        walk_at "rd"
        refine Rd.forS ?_
        walk_at "rd"
        refine ⟨by omega, by omega, ?_⟩
        rw [Int.toNat_natCast]
        refine for_range (lo := 0) (n := n) (fun q σ G => (∃ (o8 : Option V), σ = [some (.ref t), some x, some (.int (n : Nat)), some (.str z), some (.int (1 + sh)), some (.ref d), some (.str ⟨#[ch]⟩), some (.int (p : Nat)), o8]) ∧ St G) ⟨⟨_, rfl⟩, st⟩ ?_ ?_
        · rintro q _ G hq ⟨⟨o8, rfl⟩, ⟨rs, hr, ro, rl⟩, hTG, bG⟩
          rw [show 0 + (q : Int) = (q : Nat) from Int.zero_add _]
          walk_at "rd"
          refine drawR hTG (by decide) (by decide) fun w G2 w0 w1 hT2 b2 => ?_
          have hr2 := hr.tape hTG b2
          walk_at "rd"
          by_cases c1 : w < 1 + sh
          · refine Rd.yes c1 ?_
            obtain ⟨kvs, e, pr⟩ := id hr2
            have kl := Paired.length pr
            walk_at "rd"
            refine Bt.lenT e ?_
            walk_at "rd"
            by_cases c2 : rs.length < 80
            · refine Rd.yes (by omega) ?_
              walk_at "rd"
              refine ⟨t, c, x, wd, rfl, hT2, hW.tape hT (bG.trans b2), fun y v G3 hy hv ⟨ne, fz⟩ hT3 b3 => ?_⟩
              walk_at "rd"
              refine ⟨Nat.le_of_ble_eq_true rfl, Rd.new fun b G4 n4 g4 s4 => ?_⟩
              refine RdD.put (k := (p, ⟨#[ch]⟩, q)) ((hr2.tape hT2 b3).same s4) g4 (hy.same s4) (by omega) fun G5 h5 off5 => ?_
              walk_at "rd"
              exact ⟨⟨_, rfl⟩, ⟨_, h5, ro.put ⟨hp, hq, l1, hv, ne, fz⟩, by have := putR_len (rs := rs) (k := (p, (⟨#[ch]⟩ : Str), q)) (v := v); omega⟩, (hT3.same s4).off dt dc off5, but_off (((bG.trans b2).trans b3).same s4) dH off5⟩
            · refine Rd.no (by omega) ?_
              walk_at "rd"
              exact ⟨⟨_, rfl⟩, ⟨rs, hr2, ro, rl⟩, hT2, bG.trans b2⟩
          · refine Rd.no c1 ?_
            walk_at "rd"
            exact ⟨⟨_, rfl⟩, ⟨rs, hr2, ro, rl⟩, hT2, bG.trans b2⟩
        · rintro _ G ⟨⟨o8, rfl⟩, st⟩
          walk_at "rd"
          exact ⟨⟨_, _, rfl⟩, st⟩
      · rintro _ G ⟨⟨o7, o8, rfl⟩, st⟩
        walk_at "rd"
        exact ⟨⟨_, _, _, rfl⟩, st⟩
    · rintro _ G ⟨⟨o6, o7, o8, rfl⟩, ⟨rs, hr, ro, rl⟩, hTG, bG⟩
      walk_at "rd"
      exact k d rs G hr ro rl hTG bG

end
end W

namespace W
open PySem PySem.Spec PyProof.Rows L2
section
variable {P : Program} {w : World} {K : PySem.W.Frag} {mg : Str → Option Value} {base : Heap}
open Mr (Rk joined joined_lt metF leftF rightF topF)
set_option exponentiation.threshold 10000
/-! ### the law's web -/
theorem tblL_offU {H G : Hp} {D : Addr} {u : HO} (hD : H D = some u) (nl : ∀ xs, u ≠ .lst xs) (off : ∀ b, b ≠ D → G b = H b) {a : Addr} {n : Nat} {F : Nat → Nat → Nat} (h : TblL H a n F) : TblL G a n F := by
  obtain ⟨rs, h1, h2, h3⟩ := h
  have ne {a : Addr} {ys : List V} (h : H a = some (.lst ys)) : a ≠ D := fun z => by
    rw [z, hD] at h
    exact nl _ (Option.some.inj h)
  exact ⟨rs, by rw [off a (ne h1)]; exact h1, h2, fun i r e => by rw [off r (ne (h3 i r e))]; exact h3 i r e⟩
theorem WoAt.offU {H G : Hp} {D : Addr} {u : HO} (hD : H D = some u) (nl : ∀ xs, u ≠ .lst xs) (off : ∀ b, b ≠ D → G b = H b) {x : V} {wd : Wd} (h : WoAt H x wd) : WoAt G x wd := by
  cases wd with
  | len => exact h
  | num => exact h
  | rk n J M z o =>
    obtain ⟨d, e, ⟨j, p, h2, h3, h4⟩, r⟩ := h
    exact ⟨d, e, ⟨j, p, by rw [off d (fun z => by rw [z, hD] at h2; exact nl _ (Option.some.inj h2))]; exact h2, tblL_offU hD nl off h3, tblL_offU hD nl off h4⟩, r⟩
def nm3 (ns : List Str) (k : Ri3) : Rk3 := (ns.getD k.1 "", k.2.1, ns.getD k.2.2 "")
/-- the roads by names -/
def named (ns : List Str) (rs : List (Ri3 × Pv)) : List (Rk3 × Pv) := rs.map fun r => (nm3 ns r.1, r.2)
theorem getD_mem {ns : List Str} {i : Nat} (h : i < ns.length) : ns[i]? = some (ns.getD i "") ∧ ns.getD i "" ∈ ns := by
  have e : ns[i]? = some ns[i] := List.getElem?_eq_getElem h
  rw [getD_of e]
  exact ⟨e, List.getElem_mem h⟩
theorem getD_inj {ns : List Str} (nd : ns.Nodup) {i j : Nat} (hi : i < ns.length) (hj : j < ns.length) (e : ns.getD i "" = ns.getD j "") : i = j := by
  have h1 := List.getElem?_eq_some_iff.mp (getD_mem hi).1
  have h2 := List.getElem?_eq_some_iff.mp (getD_mem hj).1
  exact (List.getElem_inj nd).mp (h1.2.trans (e.trans h2.2.symm))
theorem nm3_inj {ns : List Str} (nd : ns.Nodup) {k j : Ri3} (h1 : k.1 < ns.length) (h2 : k.2.2 < ns.length) (h3 : j.1 < ns.length) (h4 : j.2.2 < ns.length) (e : nm3 ns k = nm3 ns j) : k = j := by
  obtain ⟨a, b, c⟩ := k
  obtain ⟨a', b', c'⟩ := j
  unfold nm3 at e
  simp only [Prod.mk.injEq] at e
  obtain ⟨e1, rfl, e3⟩ := e
  obtain rfl := getD_inj nd h1 h3 e1
  obtain rfl := getD_inj nd h2 h4 e3
  rfl
theorem nodup_mapOn {α β : Type} {f : α → β} : ∀ {xs : List α}, (∀ x ∈ xs, ∀ y ∈ xs, f x = f y → x = y) → xs.Nodup → (xs.map f).Nodup
  | [], _, _ => List.nodup_nil
  | x :: xs, h, nd => by
    have nd' := List.nodup_cons.mp nd
    rw [List.map_cons, List.nodup_cons]
    refine ⟨fun m => ?_, nodup_mapOn (fun a ha b hb => h a (List.mem_cons_of_mem _ ha) b (List.mem_cons_of_mem _ hb)) nd'.2⟩
    obtain ⟨y, my, e⟩ := List.mem_map.mp m
    have := h x List.mem_cons_self y (List.mem_cons_of_mem _ my) e.symm
    exact nd'.1 (by rw [this]; exact my)
theorem named_ok {wd : Wd} {ns : List Str} {rs : List (Ri3 × Pv)} (nd : ns.Nodup) (h : RdsOk wd ns.length rs) (l : rs.length ≤ 80) : RoadsOk wd ns (named ns rs) := by
  refine ⟨by unfold named; rw [List.length_map]; exact l, ?_, fun r m => ?_⟩
  · unfold named
    rw [List.map_map, show ((fun r : Rk3 × Pv => r.1) ∘ fun r : Ri3 × Pv => (nm3 ns r.1, r.2)) = (nm3 ns) ∘ fun r => r.1 from rfl, ← List.map_map]
    refine nodup_mapOn (fun a ma b mb e => ?_) h.nd
    obtain ⟨ra, mra, rfl⟩ := List.mem_map.mp ma
    obtain ⟨rb, mrb, rfl⟩ := List.mem_map.mp mb
    exact nm3_inj nd (h.ok ra mra).frm (h.ok ra mra).to (h.ok rb mrb).frm (h.ok rb mrb).to e
  · obtain ⟨q, mq, rfl⟩ := List.mem_map.mp (show r ∈ rs.map _ from m)
    have o := h.ok q mq
    exact ⟨(getD_mem o.frm).2, (getD_mem o.to).2, o.let1, o.has, o.ne⟩
theorem named_look {wd : Wd} {ns : List Str} {p q : Nat} {l : Str} (nd : ns.Nodup) (hp : p < ns.length) (hq : q < ns.length) : ∀ {rs : List (Ri3 × Pv)}, (∀ r ∈ rs, RdOk wd ns.length r) → lookR (named ns rs) (ns.getD p "", l, ns.getD q "") = lookR rs (p, l, q)
  | [], _ => rfl
  | r :: rs, h => by
    have o := h r List.mem_cons_self
    have ih := named_look nd hp hq (l := l) (rs := rs) fun x m => h x (List.mem_cons_of_mem _ m)
    show lookR ((nm3 ns r.1, r.2) :: named ns rs) _ = _
    by_cases c : r.1 = (p, l, q)
    · rw [lookR_pos c, lookR_pos (show nm3 ns r.1 = _ by rw [c]; rfl)]
    · rw [lookR_neg c, lookR_neg (fun e => c (nm3_inj nd o.frm o.to (show (p, l, q).1 < _ from hp) (show (p, l, q).2.2 < _ from hq) e)), ih]
theorem look_of {κ : Type} [DecidableEq κ] : ∀ {rs : List (κ × Pv)} {i : Nat} {r : κ × Pv}, (rs.map (·.1)).Nodup → rs[i]? = some r → lookR rs r.1 = some r.2
  | [], _, _, _, e => nomatch e
  | a :: rs, 0, r, _, e => by
    obtain rfl : a = r := Option.some.inj e
    exact lookR_pos rfl
  | a :: rs, i + 1, r, nd, e => by
    have nd' := List.nodup_cons.mp nd
    have e' : rs[i]? = some r := e
    rw [lookR_neg (fun q => nd'.1 (by show a.1 ∈ _; rw [q]; exact List.mem_map_of_mem (f := fun x : κ × Pv => x.1) (List.mem_of_getElem? e')))]
    exact look_of nd'.2 e'
theorem RoadH.offL {C D : Addr} {H G : Hp} {l : List V} {y : V} {r : Rk3 × Pv} (hD : H D = some (.lst l)) (off : ∀ b, b ≠ D → G b = H b) (h : RoadH C H y r) : RoadH C G y r := let ⟨p, x, e, h, i⟩ := h; ⟨p, x, e, by rw [off p (ne_of h hD (fun e => nomatch e))]; exact h, i.off hD off⟩
theorem HdI.offF {C : Addr} {H G : Hp} {D : Addr} {o : Obj} {u : HO} {x : V} {v : Pv} (hD : H D = some (.frz o u)) (off : ∀ b, b ≠ D → G b = H b) (h : HdI C H x v) : HdI C G x v := by
  cases v with
  | non => exact h
  | int i => exact h
  | rat r =>
    rcases (show NumAt C H x r from h) with ⟨b, rfl, dx, e⟩ | ⟨i, rfl, e⟩
    · exact .inl ⟨b, rfl, dx, by rw [off b (ne_of e hD (fun e => nomatch e))]; exact e⟩
    · exact .inr ⟨i, rfl, e⟩
theorem RoadH.offF {C D : Addr} {H G : Hp} {o : Obj} {u : HO} {y : V} {r : Rk3 × Pv} (hD : H D = some (.frz o u)) (off : ∀ b, b ≠ D → G b = H b) (h : RoadH C H y r) : RoadH C G y r := let ⟨p, x, e, h, i⟩ := h; ⟨p, x, e, by rw [off p (ne_of h hD (fun e => nomatch e))]; exact h, i.offF hD off⟩
def sp_l_web (K : PySem.W.Frag) (CK CL CN CT CR CB CM CW : Addr) : Sp := fun vs H Q _ => ∃ (x : V) (a d : Addr) (wd : Wd) (ns : List Str) (rs : List (Ri3 × Pv)), vs = [x, .ref a, .ref d] ∧ WoAt H x wd ∧ H a = some (.lst (ns.map V.str)) ∧ NamesOk ns ∧ RdD H d rs ∧ RdsOk wd ns.length rs ∧ rs.length ≤ 80 ∧
  ∀ b H', WebAt K CK CL CN CR CW H' b wd ns (named ns rs) → Same H H' → Q (.ref b) H'
theorem mkW (T : Txt K mg) {H : Hp} {Q : VK} {E : XK} {re a c : Addr} {xs : List V} {wd : Wd} {ns : List Str} {rs : List (Rk3 × Pv)} (hR : ReAt K T.C_Reckoning T.C_Lengths T.C_Numbers T.C_Ratio H re wd) (ha : H a = some (.lst (ns.map V.str))) (nok : NamesOk ns) (hc : H c = some (.lst xs)) (pr : Paired (RoadH T.C_Ratio H) xs rs) (rok : RoadsOk wd ns rs)
    (k : ∀ b H', WebAt K T.C_Reckoning T.C_Lengths T.C_Numbers T.C_Ratio T.C_Web H' b wd ns rs → Same H H' → Q (.ref b) H') : Rd.MkG T.C_Web (sp_Web_init K T.C_Reckoning T.C_Lengths T.C_Numbers T.C_Tongues T.C_Ratio T.C_BadReckoning T.C_BadWeb T.C_Web) [] E [.ref re, .ref a, .ref c] H Q := by
  refine Rd.mk fun x dx G nx nd ne gx s1 off => ?_
  exact ⟨x, re, a, c, xs, wd, ns, rs, rfl, ⟨dx, gx⟩, hR.same s1, .of (s1 _ _ ha), nok, .of (s1 _ _ hc), paired_map (fun _ _ h => h.same s1) pr, rok, fun H' hW bt => ⟨rfl, k x H' hW (made2 nx s1 bt)⟩⟩
theorem ok_l_web (T : Txt K mg) : FnOk P w K mg base CX0 11 T.f_l_web T.fd_l_web ["_law_world_here", "_law_names_here", "_law_roads_here"] (sp_l_web K T.C_Reckoning T.C_Lengths T.C_Numbers T.C_Tongues T.C_Ratio T.C_BadReckoning T.C_BadWeb T.C_Web) := by
  refine T.F_l_web.ok sc_l_web (fun vs H Q E h => ?_) (fun cdv A outer s H vs Q E hr h => ?_)
  · obtain ⟨x, a, d, wd, ns, rs, rfl, _⟩ := h
    rfl
  · obtain ⟨x, a, d, wd, ns, rs, rfl, hW, ha, nok, ⟨kvs, hd, pk⟩, rok, l80, k⟩ := h
    have kl := Paired.length pk
    refine ⟨_, (pss_cons (ps_lock (ps_setLc (i := 3) (own := [("_law_key", 4)]) (g := gName 4) (tt := tYes) rfl sc_l_web.nd rfl rfl (sw_true rfl rfl rfl (by decide +kernel)) (pi_keys (pv 2)) (blkOk_by (own := [("_law_key", 4)]) (N := ["_law_world_here", "_law_names_here", "_law_roads_here", "_law_rows", "_law_key"]) (sc := defScope s_l_web) (by decide +kernel)) (fun _ _ _ _ _ => (pg_name (i := 4) sc_l_web.nd rfl (.inl rfl))) (fun _ _ _ _ _ => pts_nil) (fun _ _ _ _ _ => (pe_tup (pa_cons (pe_ix (r := rIxL K) ix_list (pv 1) (pe_ix (r := rIxT K) ix_tup (pv 4) pe_int (fun _ _ => rfl)) (fun _ _ => rfl)) (pa_cons (pe_ix (r := rIxT K) ix_tup (pv 4) pe_int (fun _ _ => rfl)) (pa_cons (pe_ix (r := rIxL K) ix_list (pv 1) (pe_ix (r := rIxT K) ix_tup (pv 4) pe_int (fun _ _ => rfl)) (fun _ _ => rfl)) (pa_cons (pe_call (ok_l_handed T) (hr.mono (by decide)) rfl T.g_l_handed T.F_l_handed.kp T.b_l_handed .nil pass0 (pa_cons (pv 0) (pa_cons (pe_dget (hu_of hr) (pv 2) (pv 4) (fun _ _ => rfl)) pa_nil))) pa_nil))))))))
  (pss_one (ps_ret (pe_make T.M_Web (ok_Web_init T) (hr.mono (by decide)) rfl T.c_Web T.b_Web_init .nil pass0 (pa_cons (pe_call (ok_l_reckoning T) (hr.mono (by decide)) rfl T.g_l_reckoning T.F_l_reckoning.kp T.b_l_reckoning .nil pass0 (pa_cons (pv 0) pa_nil)) (pa_cons (pv 1) (pa_cons (pv 3) pa_nil))))))), ?_⟩
    walk_at "rd"
    refine Bt.lockS hd trivial fun od G1 gd off1 => ?_
    have ad : a ≠ d := ne_of ha hd (fun e => nomatch e)
    have ha1 : G1 a = _ := (off1 a ad).trans ha
    have pk1 := pi_map (fun _ _ h => (⟨h.1, h.2.offU hd (fun _ z => nomatch z) off1⟩ : RoadI G1 _ _)) pk
    have hW1 : WoAt G1 x wd := hW.offU hd (fun _ z => nomatch z) off1
    walk_at "rd"
    refine Bt.keysT gd ?_
    refine Rd.lcS (n := rs.length) (by rw [← kl]; exact walk_keysT) (fun _ s => s _ _ gd) (fun D i acc G => Paired (RoadH T.C_Ratio G) acc ((named ns rs).take i)) (fun _ _ _ _ _ => .nil) ?_ ?_
    · rintro D i y _ G acc nD hi hD sm pa ⟨rfl, kk, v, q, hkv, rfl, hq⟩
      obtain ⟨r, hr', hk, hv⟩ := pi_get pk1 hkv
      obtain rfl : kk = keyI r.1 := hk
      have o := rok.ok r (List.mem_of_getElem? hr')
      have al := Paired.length pa
      rw [List.length_take, show (named ns rs).length = rs.length from List.length_map _] at al
      obtain ⟨y, w, vy, vw, hy⟩ : ∃ y w, valV kvs (keyI r.1) = some y ∧ lookR rs r.1 = some w ∧ RawI 10 G1 y w := by
        rcases pi_val (k := r.1) pk1 with ⟨_, z⟩ | h
        · rw [look_of rok.nd hr'] at z
          cases z
        · exact h
      obtain rfl : w = r.2 := by
        rw [look_of rok.nd hr'] at vw
        exact (Option.some.inj vw).symm
      obtain ⟨⟨p1, l1, q1⟩, w⟩ := r
      walk_at "rd"
      refine ⟨rfl, ?_⟩
      walk_at "rd"
      have hqT : SqT K G q [.int (p1 : Nat), .str l1, .int (q1 : Nat)] := .of hq
      refine Rd.ixT (i := 0) (v := .int (p1 : Nat)) hqT (Rd.atI_of (by decide) rfl) ?_
      refine Rd.ixL (.of (sm _ _ ha1)) (atI_nat (by rw [List.getElem?_map, (getD_mem o.frm).1]; rfl)) ?_
      walk_at "rd"
      refine Rd.ixT (i := 1) (v := .str l1) hqT (Rd.atI_of (by decide) rfl) ?_
      walk_at "rd"
      refine Rd.ixT (i := 2) (v := .int (q1 : Nat)) hqT (Rd.atI_of (by decide) rfl) ?_
      refine Rd.ixL (.of (sm _ _ ha1)) (atI_nat (by rw [List.getElem?_map, (getD_mem o.to).1]; rfl)) ?_
      walk_at "rd"
      refine ⟨d, y, rfl, .inr ⟨kvs, keyI (p1, l1, q1), q, .inr ⟨od, sm _ _ gd⟩, rfl, hq, vy.symm⟩, ?_⟩
      walk_at "rd"
      refine ⟨x, y, wd, w, 10, rfl, hW1.same sm, o.has, hy.same sm, by decide, fun u G2 hu s2 => ?_⟩
      walk_at "rd"
      refine ⟨Nat.le_of_ble_eq_true rfl, Rd.new fun b G3 nb gb s3 => ?_⟩
      have hD3 := s3 _ _ (s2 _ _ hD)
      refine Rd.lcPush hD3 nD ((sm.trans s2).trans s3) (by rw [sizeLine_eq]; omega) fun G4 g4 off4 => ?_
      have bD : b ≠ D := ne_of gb hD3 (fun e => nomatch e)
      rw [Rd.take_snoc (x := (nm3 ns (p1, l1, q1), w)) (by unfold named; rw [List.getElem?_map, hr']; rfl)]
      refine Paired.snoc (paired_map (fun _ _ h => ((h.same s2).same s3).offL hD3 off4) pa) ⟨b, u, rfl, by rw [off4 _ bD]; exact gb, (hu.same s3).off hD3 off4⟩
    · rintro D acc G nD hD sm pa
      walk_at "rd"
      have sB := Bt.lockB hd off1 sm
      have nDd : D ≠ d := fun e => by rw [e, gd] at nD; cases nD
      have hDB : upd G d (.dT kvs) D = some (.lst acc) := by rw [upd_ne nDd]; exact hD
      rw [List.take_of_length_le (Nat.le_of_eq (show (named ns rs).length = rs.length from List.length_map _))] at pa
      have paB := paired_map (fun _ _ h => h.offF (D := d) (G := upd G d (.dT kvs)) (sm _ _ gd) (fun b n => upd_ne n)) pa
      have al := Paired.length pa
      rw [show (named ns rs).length = rs.length from List.length_map _] at al
      refine ⟨sm _ _ gd, ?_⟩
      generalize upd G d (.dT kvs) = GB at sB hDB paB ⊢
      walk_at "rd"
      refine ⟨x, wd, rfl, hW.same sB, fun re G2 hR s2 => ?_⟩
      walk_at "rd"
      refine mkW T hR (s2 _ _ (sB _ _ ha)) ‹_› (s2 _ _ hDB) (paired_map (fun _ _ h => h.same s2) paB) (named_ok ‹NamesOk ns›.nd rok l80) fun b G3 hb s3 => ?_
      exact k b G3 hb ((sB.trans s2).trans s3)

end
end W

namespace W
open PySem PySem.Spec PyProof.Rows L2
section
variable {P : Program} {w : World} {K : PySem.W.Frag} {mg : Str → Option Value} {base : Heap}
open Mr (Rk joined joined_lt metF leftF rightF topF)
open Mx (Sz)
set_option exponentiation.threshold 10000
/-- which of a web's places it is -/
def plc (ns : List Str) : Rx.Kd → Bool
  | .str z => decide (z ∈ ns)
  | _ => false
def LtK (k : Rx.Kd) : Prop := ∃ z, k = .str z ∧ Lt1 z
theorem str_or {H : Hp} {x : V} {k : Rx.Kd} (h : Rx.Is H x k) : (∃ z, x = .str z ∧ k = .str z ∧ z.length ≤ 1000000) ∨ k.isStr = false := by
  cases h with
  | str l => exact .inl ⟨_, rfl, rfl, l⟩
  | _ => exact .inr rfl
theorem plc_no {ns : List Str} {k : Rx.Kd} (h : k.isStr = false) : plc ns k = false := by cases k <;> first | rfl | cases h
theorem ltk_no {k : Rx.Kd} (h : k.isStr = false) : ¬ LtK k := fun ⟨z, e, _⟩ => by rw [e] at h; cases h
def sp_Web_worth (K : PySem.W.Frag) (CK CL CN CT CR CB CM CW C1 C2 : Addr) : Sp := fun vs H Q E => ∃ (b : Addr) (x y z : V) (wd : Wd) (ns : List Str) (rs : List (Rk3 × Pv)) (k1 k2 k3 : Rx.Kd), vs = [.ref b, x, y, z] ∧ WebAt K CK CL CN CR CW H b wd ns rs ∧ Rx.Is H x k1 ∧ Rx.Is H y k2 ∧ Rx.Is H z k3 ∧
  (plc ns k1 = false → Rx.Raised C1 x H E) ∧ (plc ns k1 = true → ¬ LtK k2 → Rx.Raised C2 y H E) ∧ (plc ns k1 = true → LtK k2 → plc ns k3 = false → Rx.Raised C1 z H E) ∧
  ∀ p l q, k1 = .str p → k2 = .str l → k3 = .str q → p ∈ ns → Lt1 l → q ∈ ns → ∀ u H', ProI CR H' u (wd.road rs p l q) → Same H H' → Q u H'
theorem ok_Web_worth (T : Txt K mg) : FnOk P w K mg base (L2.CX P w) 4 T.f_Web_worth T.fd_Web_worth ["self", "one", "letter", "other"] (sp_Web_worth K T.C_Reckoning T.C_Lengths T.C_Numbers T.C_Tongues T.C_Ratio T.C_BadReckoning T.C_BadWeb T.C_Web T.C_BadName T.C_BadLetter) := by
  refine T.F_Web_worth.okX sc_Web_worth (fun vs H Q E h => ?_) (fun cdv A outer s H vs Q E hr h => ?_)
  · obtain ⟨b, x, y, z, wd, ns, rs, k1, k2, k3, rfl, _⟩ := h
    rfl
  · obtain ⟨b, x, y, z, wd, ns, rs, k1, k2, k3, rfl, hb, i1, i2, i3, r1, r2, r3, k⟩ := h
    obtain ⟨dx, re, pa, kd, ro, kvs, xs, h0, hR, hp, hk, pk, _⟩ := id hb
    refine ⟨_, (pss_cons (ps_if (PW.pt (pw_or (pt_not (pt_val (pe_callB (id := "isinstance") (r := rIsi K) call_isi (by rfl) T.n_isinstance (by decide +kernel) (pa_cons (pv 1) (pa_cons (pe_bltn (v := .ty "str") (u := .type "str") (by rfl) T.n_str (by decide +kernel) rfl) pa_nil))))) (pw_or1 (pt_cmpR (r := rIn K true) op_notIn_seq (pv 1) (pe_fld (pv 0) rfl) (by rfl)))))
  (pss_one (Rx.ps_raise1 rfl T.X_BadName T.tI_WayError_init (ok_WayError_init T) (hr.mono (by decide)) T.b_WayError_init rfl T.c_BadName (takes_of rfl rfl rfl rfl) (pv 1)))
  pss_nil)
  (pss_cons (ps_if (pt_not (pt_val (pe_call (ok_is_letter T) (hr.mono (by decide)) rfl T.g_is_letter T.F_is_letter.kp T.b_is_letter .nil pass0 (pa_cons (pv 2) pa_nil))))
  (pss_one (Rx.ps_raise1 rfl T.X_BadLetter T.tI_WayError_init (ok_WayError_init T) (hr.mono (by decide)) T.b_WayError_init rfl T.c_BadLetter (takes_of rfl rfl rfl rfl) (pv 2)))
  pss_nil)
  (pss_cons (ps_if (PW.pt (pw_or (pt_not (pt_val (pe_callB (id := "isinstance") (r := rIsi K) call_isi (by rfl) T.n_isinstance (by decide +kernel) (pa_cons (pv 3) (pa_cons (pe_bltn (v := .ty "str") (u := .type "str") (by rfl) T.n_str (by decide +kernel) rfl) pa_nil))))) (pw_or1 (pt_cmpR (r := rIn K true) op_notIn_seq (pv 3) (pe_fld (pv 0) rfl) (by rfl)))))
  (pss_one (Rx.ps_raise1 rfl T.X_BadName T.tI_WayError_init (ok_WayError_init T) (hr.mono (by decide)) T.b_WayError_init rfl T.c_BadName (takes_of rfl rfl rfl rfl) (pv 3)))
  pss_nil)
  (pss_one (ps_ret (pe_dget2 (hu_of hr) (pe_fld (pv 0) rfl) (pe_tup (pa_cons (pv 1) (pa_cons (pv 2) (pa_cons (pv 3) pa_nil)))) (pe_fld (pe_fld (pv 0) rfl) rfl) ⟨rfl, rfl, rfl, rfl⟩)))))), ?_⟩
    rcases str_or i1 with ⟨p, rfl, rfl, pl⟩ | e1
    · walk_at "rd"
      refine Rd.isiStr ?_
      walk_at "rd"
      refine Rd.fld h0 T.cl_Web T.na_Web_places rfl ?_
      refine Rd.inStrsN (.inr (.of hp)) ?_
      by_cases c1 : p ∈ ns
      · rw [decide_eq_true c1]
        have p1 : plc ns (.str p) = true := decide_eq_true c1
        walk_at "rd"
        rcases str_or i2 with ⟨l, rfl, rfl, ll⟩ | e2
        · refine .inl ⟨l, rfl, ll, fun bb H1 hbb s1 => ?_⟩
          walk_at "rd"
          by_cases c2 : Lt1 l
          · rw [show bb = true from hbb.mpr c2]
            walk_at "rd"
            rcases str_or i3 with ⟨q, rfl, rfl, ql⟩ | e3
            · refine Rd.isiStr ?_
              walk_at "rd"
              refine Rd.fld (s1 _ _ h0) T.cl_Web T.na_Web_places rfl ?_
              refine Rd.inStrsN (.inr (.of (s1 _ _ hp))) ?_
              by_cases c3 : q ∈ ns
              · rw [decide_eq_true c3]
                walk_at "rd"
                refine Bt.get2H ?_
                walk_at "rd"
                refine Rd.fld (s1 _ _ h0) T.cl_Web T.na_Web_kept rfl ?_
                refine ⟨kd, rfl, .inr ⟨_, .inl (s1 _ _ hk)⟩, ?_⟩
                walk_at "rd"
                refine ⟨Nat.le_of_ble_eq_true rfl, Rd.new fun c G4 n4 g4 s4 => ?_⟩
                have g4 : G4 c = some (.tup ((key3 (p, l, q)).map kV)) := g4
                have s04 := s1.trans s4
                walk_at "rd"
                refine Rd.fld (s04 _ _ h0) T.cl_Web T.na_Web_reckoning rfl ?_
                refine (hR.same s04).fnone T fun w hw => ?_
                refine ⟨_, DGet.t (s04 _ _ hk) g4, ?_⟩
                walk_at "rd"
                exact k p l q rfl rfl rfl c1 c2 c3 _ _ (valV_look hw (p, l, q) (pk_map (fun _ _ h => h.same s04) pk)) s04
              · rw [decide_eq_false c3]
                walk_at "rd"
                exact (r3 p1 ⟨l, rfl, c2⟩ (decide_eq_false c3)).now s1
            · refine Rx.askStr (i3.same s1) ?_
              rw [e3]
              walk_at "rd"
              exact (r3 p1 ⟨l, rfl, c2⟩ (plc_no e3)).now s1
          · rw [show bb = false from Bool.eq_false_iff.mpr fun e => c2 (hbb.mp e)]
            walk_at "rd"
            exact (r2 p1 fun ⟨z, e, h⟩ => c2 (by cases e; exact h)).now s1
        · refine .inr ⟨y, rfl, .inl ⟨k2, i2, e2⟩, fun H1 s1 => ?_⟩
          walk_at "rd"
          exact (r2 p1 (ltk_no e2)).now s1
      · rw [decide_eq_false c1]
        walk_at "rd"
        exact (r1 (decide_eq_false c1)).now (Same.refl _)
    · walk_at "rd"
      refine Rx.askStr i1 ?_
      rw [e1]
      walk_at "rd"
      exact (r1 (plc_no e1)).now (Same.refl _)
/-- a thing that is not the tape -/
def Th (t : Addr) (H : Hp) (x : V) : Prop := (∃ k, Rx.Is H x k) ∧ x ≠ .ref t
theorem Th.same {t : Addr} {H H' : Hp} {x : V} (s : Same H H') (h : Th t H x) : Th t H' x := let ⟨⟨k, i⟩, n⟩ := h; ⟨⟨k, i.same s⟩, n⟩
theorem Th.tape {t : Addr} {H H' : Hp} {x : V} (s : Rd.But t H H') (h : Th t H x) : Th t H' x := by
  obtain ⟨⟨k, i⟩, n⟩ := h
  refine ⟨⟨k, ?_⟩, n⟩
  cases i with
  | non => exact .non
  | bl b => exact .bl b
  | int i => exact .int i
  | str l => exact .str l
  | lst h l => exact .lst (s _ _ (fun e => n (by rw [e])) h) l
  | tup h l => exact .tup (s _ _ (fun e => n (by rw [e])) h) l
  | dct h => exact .dct (s _ _ (fun e => n (by rw [e])) h)
theorem Th.self {t : Addr} {H : Hp} {x : V} (h : Th t H x) : flatB x = true ∨ ∃ a, x = .ref a := by
  obtain ⟨⟨k, i⟩, n⟩ := h
  cases i <;> first | exact .inl rfl | exact .inr ⟨_, rfl⟩
def sp_l_place (K : PySem.W.Frag) : Sp := fun vs H Q _ => ∃ (t c a : Addr) (ns : List Str), vs = [.ref t, .ref a] ∧ Tape H t c ∧ H a = some (.lst (ns.map V.str)) ∧ a ≠ t ∧ 1 ≤ ns.length ∧ ns.length ≤ 10 ∧ (∀ z ∈ ns, Lt.Wd 8 z) ∧ ∀ x H', Th t H' x → Tape H' t c → Rd.But t H H' → Q x H'
def sp_l_letter (K : PySem.W.Frag) : Sp := fun vs H Q _ => ∃ (t c : Addr), vs = [.ref t] ∧ Tape H t c ∧ ∀ x H', Th t H' x → Tape H' t c → Rd.But t H H' → Q x H'
theorem namePick {H : Hp} {a : Addr} {ns : List Str} {i : Int} {Q : VK} (h : H a = some (.lst (ns.map V.str))) (h0 : 0 ≤ i) (h1 : i < (ns.length : Nat)) (q : ∀ z ∈ ns, Q (.str z) H) : rIxL K (.ref a) (.int i) H Q :=
  pickL h h0 (by rw [List.length_map]; exact h1) fun v m => by
    obtain ⟨z, mz, rfl⟩ := List.mem_map.mp m
    exact q z mz
def Disp1 (p : Addr) (x y : V) (H2 : Hp) (Q : VK) : Prop := H2 p = some (.dK []) ∧ ∃ kvs : List (Key × V), [(x, y)] = kvs.map (fun kv => (kV kv.1, kv.2)) ∧ kvs.length ≤ 15 ∧ Q (.ref p) (upd H2 p (.dK (mergeK [] kvs)))
theorem disp1 {σ : L2.St} {H : Hp} {tk tv : TE} {Q : VK} (h : ∀ (p : Addr) (G : Hp), H p = none → G p = some (.dK []) → Same H G → tk σ G fun x H1 => tv σ H1 fun y H2 => Disp1 p x y H2 Q) : tDisp [(tk, tv)] σ H Q := fun p hp => h p _ hp upd_same (Rd.same_upd hp)
theorem disp1S {p : Addr} {z : Str} {y : V} {H : Hp} {Q : VK} (e : H p = some (.dK [])) (h : ∀ G : Hp, G p = some (.dK [(.inr z, y)]) → (∀ b, b ≠ p → G b = H b) → Q (.ref p) G) : Disp1 p (.str z) y H Q :=
  ⟨e, [(.inr z, y)], rfl, Nat.le_of_ble_eq_true rfl, h _ upd_same fun b hb => upd_ne hb⟩
theorem same_new {G G1 G2 : Hp} {D : Addr} (n : G D = none) (s : Same G G1) (off : ∀ b, b ≠ D → G2 b = G1 b) : Same G G2 := fun b o e => by rw [off b (ne_of_none e n)]; exact s _ _ e
theorem cut_small {z : Str} {lo hi : Option Int} : (cutS z lo hi).length ≤ z.length := by
  show (((z.cps.toList.drop _).take _).toArray).size ≤ z.cps.size
  rw [List.size_toArray, List.length_take, List.length_drop, Array.length_toList]
  omega
theorem ok_l_place (T : Txt K mg) : FnOk P w K mg base CX0 2 T.f_l_place T.fd_l_place ["_law_hand_here", "_law_names_here"] (sp_l_place K) := by
  refine T.F_l_place.ok sc_l_place (fun vs H Q E h => ?_) (fun cdv A outer s H vs Q E hr h => ?_)
  · obtain ⟨t, c, a, ns, rfl, _⟩ := h
    rfl
  · obtain ⟨t, c, a, ns, rfl, hT, ha, nat, n1, n10, nw, k⟩ := h
    refine ⟨_, (pss_cons (ps_if (pt_cmpR op_gt (pe_call (ok_l_draw T) (hr.mono (by decide)) rfl T.g_l_draw T.F_l_draw.kp T.b_l_draw .nil pass0 (pa_cons (pv 0) (pa_cons pe_int pa_nil))) pe_int (nomark _))
  (pss_one (ps_ret (pe_ix (r := rIxL K) ix_list (pv 1) (pe_call (ok_l_draw T) (hr.mono (by decide)) rfl T.g_l_draw T.F_l_draw.kp T.b_l_draw .nil pass0 (pa_cons (pv 0) (pa_cons (pe_callB (id := "len") (r := Rd.nLen K) Rd.c_len (by rfl) T.n_len (by decide +kernel) (pa_cons (pv 1) pa_nil)) pa_nil))) (fun _ _ => rfl))))
  pss_nil)
  (pss_cons (ps_set (i := 2) sc_l_place.nd rfl (.inl rfl) (pe_ix (r := rIxL K) ix_list (pv 1) (pe_call (ok_l_draw T) (hr.mono (by decide)) rfl T.g_l_draw T.F_l_draw.kp T.b_l_draw .nil pass0 (pa_cons (pv 0) (pa_cons (pe_callB (id := "len") (r := Rd.nLen K) Rd.c_len (by rfl) T.n_len (by decide +kernel) (pa_cons (pv 1) pa_nil)) pa_nil))) (fun _ _ => rfl)))
  (pss_cons (ps_set (i := 3) sc_l_place.nd rfl (.inl rfl) (pe_lst (pa_cons pe_non (pa_cons pe_str (pa_cons pe_int (pa_cons pe_bl (pa_cons (pe_op Rd.o_addS (pv 2) pe_str) (pa_cons (pe_slice sl_str (pv 2) po_none (po_some (pe_un un_neg pe_int))) (pa_cons (pe_upper (pv 2)) (pa_cons (pe_lst (pa_cons (pv 2) pa_nil)) (pa_cons (pe_tup (pa_cons (pv 2) pa_nil)) (pa_cons (pe_disp (pps_cons (pv 2) pe_int pps_nil) rfl rfl (by simp) (by decide)) (pa_cons pe_str (pa_cons (pv 1) pa_nil))))))))))))))
  (pss_one (ps_ret (pe_ix (r := rIxL K) ix_list (pv 3) (pe_call (ok_l_draw T) (hr.mono (by decide)) rfl T.g_l_draw T.F_l_draw.kp T.b_l_draw .nil pass0 (pa_cons (pv 0) (pa_cons (pe_callB (id := "len") (r := Rd.nLen K) Rd.c_len (by rfl) T.n_len (by decide +kernel) (pa_cons (pv 3) pa_nil)) pa_nil))) (fun _ _ => rfl))))))), ?_⟩
    walk_at "rd"
    refine drawR hT (by decide) (by decide) fun r H1 r0 r1 hT1 b1 => ?_
    have ha1 := b1 _ _ nat ha
    walk_at "rd"
    by_cases c1 : 0 < r
    · refine Rd.yes c1 ?_
      walk_at "rd"
      refine Rd.len (.inl (.of ha1)) ?_
      rw [List.length_map]
      walk_at "rd"
      refine drawR hT1 (by omega) (by omega) fun u H2 u0 u1 hT2 b2 => ?_
      refine namePick (b2 _ _ nat ha1) u0 u1 fun z mz => ?_
      exact k _ _ ⟨⟨_, .str (by have := (nw z mz).l1; omega)⟩, (fun e => nomatch e)⟩ hT2 (b1.trans b2)
    · refine Rd.no c1 ?_
      walk_at "rd"
      refine Rd.len (.inl (.of ha1)) ?_
      rw [List.length_map]
      walk_at "rd"
      refine drawR hT1 (by omega) (by omega) fun u H2 u0 u1 hT2 b2 => ?_
      have ha2 := b2 _ _ nat ha1
      refine namePick ha2 u0 u1 fun z mz => ?_
      have zw := nw z mz
      walk_at "rd"
      have z8 : z.length ≤ 8 := by have := zw.l1; omega
      refine Rd.addS (by rw [sizeLine_eq]; exact Nat.le_trans (Nat.add_le_add z8 (show ("aaaaaaaa" : Str).length ≤ 8 by decide +kernel)) (by decide)) ?_
      walk_at "rd"
      refine Rd.slS (by rw [sizeLine_eq]; omega) ?_
      walk_at "rd"
      unfold tM0
      walk_at "rd"
      refine ⟨rfl, by omega, ?_⟩
      have hu : (Txt.upper z).length ≤ 100 := by have := PyProof.Rows.len_upper z; omega
      walk_at "rd"
      refine ⟨Nat.le_of_ble_eq_true rfl, Rd.new fun p1 G1 n1 g1 s1 => ?_⟩
      walk_at "rd"
      refine ⟨Nat.le_of_ble_eq_true rfl, Rd.new fun p2 G2 n2 g2 s2 => ?_⟩
      walk_at "rd"
      refine disp1 fun p3 G3 n3 g3 s3 => ?_
      walk_at "rd"
      refine disp1S g3 fun G4 g4 off4 => ?_
      have s34 : Same G2 G4 := same_new n3 s3 off4
      walk_at "rd"
      refine ⟨Nat.le_of_ble_eq_true rfl, Rd.new fun p5 G5 n5 g5 s5 => ?_⟩
      walk_at "rd"
      have sA := ((s1.trans s2).trans s34).trans s5
      have hT5 := hT2.same sA
      have nt1 := (hT2.new n1).1
      have nt2 := ((hT2.same s1).new n2).1
      have nt3 := ((hT2.same (s1.trans s2)).new n3).1
      refine Rd.len (.inl (.of g5)) ?_
      walk_at "rd"
      refine drawR hT5 (show (0 : Int) < ((12 : Nat) : Int) by decide) (show ((12 : Nat) : Int) < 1073741824 by decide) fun v H6 v0 v1 hT6 b6 => ?_
      have nt5 := ((hT2.same ((s1.trans s2).trans s34)).new n5).1
      refine pickL (b6 _ _ nt5 g5) v0 v1 fun y my => ?_
      have bA : Rd.But t H H6 := ((b1.trans b2).same sA).trans b6
      have l1 : H6 p1 = _ := b6 _ _ nt1 (((s2.trans s34).trans s5) _ _ g1)
      have l2 : H6 p2 = _ := b6 _ _ nt2 ((s34.trans s5) _ _ g2)
      have l3 : H6 p3 = _ := b6 _ _ nt3 (s5 _ _ g4)
      have la : H6 a = _ := b6 _ _ nat (sA _ _ ha2)
      refine k _ _ ?_ hT6 bA
      simp only [List.mem_cons, List.not_mem_nil, or_false] at my
      have tx : ∀ w : Str, w.length ≤ 1000000 → Th t H6 (.str w) := fun w l => ⟨⟨_, .str l⟩, (fun e => nomatch e)⟩
      rcases my with rfl | rfl | rfl | rfl | rfl | rfl | rfl | rfl | rfl | rfl | rfl | rfl
      · exact ⟨⟨_, .non⟩, (fun e => nomatch e)⟩
      · exact tx _ (by decide +kernel)
      · exact ⟨⟨_, .int _⟩, (fun e => nomatch e)⟩
      · exact ⟨⟨_, .bl _⟩, (fun e => nomatch e)⟩
      · exact tx _ (by rw [Lt.len_app]; exact Nat.le_trans (Nat.add_le_add z8 (show ("aaaaaaaa" : Str).length ≤ 8 by decide +kernel)) (by decide))
      · exact tx _ (Nat.le_trans cut_small (by omega))
      · exact tx _ (by omega)
      · exact ⟨⟨_, .lst l1 (show 1 ≤ 1000000 by decide)⟩, fun e => nt1 (V.ref.inj e)⟩
      · exact ⟨⟨_, .tup l2 (show 1 ≤ 1000000 by decide)⟩, fun e => nt2 (V.ref.inj e)⟩
      · exact ⟨⟨_, .dct l3⟩, fun e => nt3 (V.ref.inj e)⟩
      · exact tx _ (by decide +kernel)
      · exact ⟨⟨_, .lst la (by rw [List.length_map]; omega)⟩, fun e => nat (V.ref.inj e)⟩
theorem ok_l_letter (T : Txt K mg) : FnOk P w K mg base CX0 2 T.f_l_letter T.fd_l_letter ["_law_hand_here"] (sp_l_letter K) := by
  refine T.F_l_letter.ok sc_l_letter (fun vs H Q E h => ?_) (fun cdv A outer s H vs Q E hr h => ?_)
  · obtain ⟨t, c, rfl, _⟩ := h
    rfl
  · obtain ⟨t, c, rfl, hT, k⟩ := h
    refine ⟨_, (pss_cons (ps_if (pt_cmpR op_gt (pe_call (ok_l_draw T) (hr.mono (by decide)) rfl T.g_l_draw T.F_l_draw.kp T.b_l_draw .nil pass0 (pa_cons (pv 0) (pa_cons pe_int pa_nil))) pe_int (nomark _))
  (pss_one (ps_ret (pe_ix ix_str pe_str (pe_call (ok_l_draw T) (hr.mono (by decide)) rfl T.g_l_draw T.F_l_draw.kp T.b_l_draw .nil pass0 (pa_cons (pv 0) (pa_cons pe_int pa_nil))) (fun _ _ => rfl))))
  pss_nil)
  (pss_one (ps_ret (pe_ix (r := rIxL K) ix_list (pe_lst (pa_cons pe_str (pa_cons pe_str (pa_cons pe_str (pa_cons pe_non (pa_cons pe_int (pa_cons (pe_lst (pa_cons pe_str pa_nil)) (pa_cons (pe_tup (pa_cons pe_str pa_nil)) (pa_cons pe_str (pa_cons pe_bl (pa_cons pe_str pa_nil))))))))))) (pe_call (ok_l_draw T) (hr.mono (by decide)) rfl T.g_l_draw T.F_l_draw.kp T.b_l_draw .nil pass0 (pa_cons (pv 0) (pa_cons pe_int pa_nil))) (fun _ _ => rfl))))), ?_⟩
    walk_at "rd"
    refine drawR hT (by decide) (by decide) fun r H1 r0 r1 hT1 b1 => ?_
    walk_at "rd"
    by_cases c1 : 0 < r
    · refine Rd.yes c1 ?_
      walk_at "rd"
      refine drawR hT1 (by decide) (by decide) fun u H2 u0 u1 hT2 b2 => ?_
      obtain ⟨ch, hch⟩ : ∃ ch, atI ("abc" : Str).cps.toList u = some ch := by
        have l : u.toNat < ("abc" : Str).cps.toList.length := by
          rw [show ("abc" : Str).cps.toList.length = 3 by decide +kernel]
          omega
        exact ⟨_, Rd.atI_of u0 (List.getElem?_eq_getElem l)⟩
      refine Rd.ixS (by decide +kernel) hch ?_
      exact k _ _ ⟨⟨_, .str (show 1 ≤ 1000000 by decide)⟩, (fun e => nomatch e)⟩ hT2 (b1.trans b2)
    · refine Rd.no c1 ?_
      walk_at "rd"
      refine ⟨Nat.le_of_ble_eq_true rfl, Rd.new fun p1 G1 n1 g1 s1 => ?_⟩
      walk_at "rd"
      refine ⟨Nat.le_of_ble_eq_true rfl, Rd.new fun p2 G2 n2 g2 s2 => ?_⟩
      walk_at "rd"
      refine ⟨Nat.le_of_ble_eq_true rfl, Rd.new fun p5 G5 n5 g5 s5 => ?_⟩
      walk_at "rd"
      have sA := (s1.trans s2).trans s5
      have hT5 := hT1.same sA
      have nt1 := (hT1.new n1).1
      have nt2 := ((hT1.same s1).new n2).1
      have nt5 := ((hT1.same (s1.trans s2)).new n5).1
      refine drawR hT5 (by decide) (by decide) fun v H6 v0 v1 hT6 b6 => ?_
      refine pickL (b6 _ _ nt5 g5) v0 v1 fun y my => ?_
      have l1 : H6 p1 = _ := b6 _ _ nt1 ((s2.trans s5) _ _ g1)
      have l2 : H6 p2 = _ := b6 _ _ nt2 (s5 _ _ g2)
      refine k _ _ ?_ hT6 ((b1.same sA).trans b6)
      simp only [List.mem_cons, List.not_mem_nil, or_false] at my
      have tx : ∀ w : Str, w.length ≤ 1000000 → Th t H6 (.str w) := fun w l => ⟨⟨_, .str l⟩, (fun e => nomatch e)⟩
      rcases my with rfl | rfl | rfl | rfl | rfl | rfl | rfl | rfl | rfl | rfl
      · exact tx _ (by decide +kernel)
      · exact tx _ (by decide +kernel)
      · exact tx _ (by decide +kernel)
      · exact ⟨⟨_, .non⟩, (fun e => nomatch e)⟩
      · exact ⟨⟨_, .int _⟩, (fun e => nomatch e)⟩
      · exact ⟨⟨_, .lst l1 (show 1 ≤ 1000000 by decide)⟩, fun e => nt1 (V.ref.inj e)⟩
      · exact ⟨⟨_, .tup l2 (show 1 ≤ 1000000 by decide)⟩, fun e => nt2 (V.ref.inj e)⟩
      · exact tx _ (by decide +kernel)
      · exact ⟨⟨_, .bl _⟩, (fun e => nomatch e)⟩
      · exact tx _ (by decide +kernel)
/-- what is due of three things -/
def Due (ns : List Str) (x y z : V) (k1 k2 k3 : Rx.Kd) (w : Str) (v : V) : Prop :=
  (plc ns k1 = false ∧ w = "name" ∧ v = x) ∨ (plc ns k1 = true ∧ ¬ LtK k2 ∧ w = "letter" ∧ v = y) ∨ (plc ns k1 = true ∧ LtK k2 ∧ plc ns k3 = false ∧ w = "name" ∧ v = z)
def AsksW (CR : Addr) (H : Hp) (wd : Wd) (ns : List Str) (rs : List (Rk3 × Pv)) (x y z : V) (k1 k2 k3 : Rx.Kd) (w : Str) (v : V) : Prop :=
  Due ns x y z k1 k2 k3 w v ∨ ∃ p l q, k1 = .str p ∧ k2 = .str l ∧ k3 = .str q ∧ p ∈ ns ∧ Lt1 l ∧ q ∈ ns ∧ w = "told" ∧ ProI CR H v (wd.road rs p l q)
def sp_l_asked (K : PySem.W.Frag) (CK CL CN CT CR CB CM CW C1 C2 : Addr) : Sp := fun vs H Q _ => ∃ (b : Addr) (x y z : V) (wd : Wd) (ns : List Str) (rs : List (Rk3 × Pv)) (k1 k2 k3 : Rx.Kd), vs = [.ref b, x, y, z] ∧ WebAt K CK CL CN CR CW H b wd ns rs ∧ Rx.Is H x k1 ∧ Rx.Is H y k2 ∧ Rx.Is H z k3 ∧
  ∀ p w v H', H' p = some (.tup [.str w, v]) → AsksW CR H' wd ns rs x y z k1 k2 k3 w v → Same H H' → Q (.ref p) H'
theorem ok_l_asked (T : Txt K mg) : FnOk P w K mg base CX0 5 T.f_l_asked T.fd_l_asked ["_law_web_here", "_law_one_here", "_law_letter_here", "_law_other"] (sp_l_asked K T.C_Reckoning T.C_Lengths T.C_Numbers T.C_Tongues T.C_Ratio T.C_BadReckoning T.C_BadWeb T.C_Web T.C_BadName T.C_BadLetter) := by
  refine T.F_l_asked.ok sc_l_asked (fun vs H Q E h => ?_) (fun cdv A outer s H vs Q E hr h => ?_)
  · obtain ⟨b, x, y, z, wd, ns, rs, k1, k2, k3, rfl, _⟩ := h
    rfl
  · obtain ⟨b, x, y, z, wd, ns, rs, k1, k2, k3, rfl, hb, i1, i2, i3, k⟩ := h
    refine ⟨_, (pss_cons (ps_set (i := 4) sc_l_asked.nd rfl (.inl rfl) (pe_tup (pa_cons pe_str (pa_cons pe_int pa_nil))))
  (pss_cons (ps_try_as (i := 5) (Wout := (fun _ _ _ _ => False)) rfl rfl sc_l_asked.nd rfl rfl ⟨rfl, by decide, Or.inl T.c_WayError⟩ takes0
   (fun W pn xe tk _ => (pss_one (ps_set (i := 4) sc_l_asked.nd rfl (.inl rfl) (pe_tup (pa_cons pe_str (pa_cons (Rq.pe_methS (pv 0) T.cl_Web T.h_Web_worth (ok_Web_worth T) (hr.mono (by decide)) T.b_Web_worth (fun σ => passAt tk σ) (pa_cons (pv 1) (pa_cons (pv 2) (pa_cons (pv 3) pa_nil)))) pa_nil))))))
   (fun a oe cls d pn hz hf => (pss_cons (ps_set (i := 4) sc_l_asked.nd rfl (.inl rfl) (pe_tup (pa_cons pe_str (pa_cons pe_int pa_nil))))
  (pss_one (ps_if (PW.pt (pw_and (pt_val (pe_callB (id := "isinstance") (r := Rx.rIsX K a cls d) (Rx.call_isX hz hf) (by rfl) T.n_isinstance (by decide +kernel) (pa_cons (pv 5) (pa_cons (pe_glob (v := .ref T.C_BadName) rfl T.c_BadName rfl) pa_nil)))) (pw_and1 (pt_not (pt_val (pe_callB (id := "isinstance") (r := Rx.rIsX K a cls d) (Rx.call_isX hz hf) (by rfl) T.n_isinstance (by decide +kernel) (pa_cons (pv 5) (pa_cons (pe_glob (v := .ref T.C_BadLetter) rfl T.c_BadLetter rfl) pa_nil))))))))
  (pss_one (ps_set (i := 4) sc_l_asked.nd rfl (.inl rfl) (pe_tup (pa_cons pe_str (pa_cons (Rx.pe_xv hz hf (pv 5) : PE _ _ (Rx.tXv K a cls d _ _)) pa_nil)))))
  (pss_one (ps_if (PW.pt (pw_and (pt_val (pe_callB (id := "isinstance") (r := Rx.rIsX K a cls d) (Rx.call_isX hz hf) (by rfl) T.n_isinstance (by decide +kernel) (pa_cons (pv 5) (pa_cons (pe_glob (v := .ref T.C_BadLetter) rfl T.c_BadLetter rfl) pa_nil)))) (pw_and1 (pt_not (pt_val (pe_callB (id := "isinstance") (r := Rx.rIsX K a cls d) (Rx.call_isX hz hf) (by rfl) T.n_isinstance (by decide +kernel) (pa_cons (pv 5) (pa_cons (pe_glob (v := .ref T.C_BadName) rfl T.c_BadName rfl) pa_nil))))))))
  (pss_one (ps_set (i := 4) sc_l_asked.nd rfl (.inl rfl) (pe_tup (pa_cons pe_str (pa_cons (Rx.pe_xv hz hf (pv 5) : PE _ _ (Rx.tXv K a cls d _ _)) pa_nil)))))
  pss_nil)))))))
  (pss_one (ps_ret (pv 4))))), ?_⟩
    walk_at "rd"
    refine ⟨Nat.le_of_ble_eq_true rfl, Rd.new fun p0 G0 n0 g0 s0 => ?_⟩
    walk_at "rd"
    refine Rq.methS ?_
    walk_at "rd"
    have hb0 := hb.same s0
    obtain ⟨dx, re, pa, kd, ro, kvs, xs, h0, _⟩ := id hb0
    refine Rd.meth h0 rfl ?_
    walk_at "rd"
    refine ⟨b, x, y, z, wd, ns, rs, k1, k2, k3, rfl, hb0, i1.same s0, i2.same s0, i3.same s0, fun e1 d H2 nd hd s2 => ?_, fun e1 e2 d H2 nd hd s2 => ?_, fun e1 e2 e3 d H2 nd hd s2 => ?_, fun p l q e1 e2 e3 m1 m2 m3 u H2 hu s2 => ?_⟩
    · refine Rx.caught T.X_WayError T.s_BadName_WayError fun ea na => ?_
      walk_at "rd"
      refine ⟨Nat.le_of_ble_eq_true rfl, Rd.new fun p1 G1 n1 g1 s3 => ?_⟩
      walk_at "rd"
      refine Rx.isX T.X_BadName T.X_BadName T.s_BadName_BadName (s3 _ _ hd) ?_
      walk_at "rd"
      refine Rx.isX T.X_BadName T.X_BadLetter T.s_BadName_BadLetter (s3 _ _ hd) ?_
      walk_at "rd"
      refine Rx.xv T.X_BadName (s3 _ _ hd) ?_
      walk_at "rd"
      refine ⟨Nat.le_of_ble_eq_true rfl, Rd.new fun p2 G2 n2 g2 s4 => ?_⟩
      walk_at "rd"
      exact k p2 _ _ G2 g2 (.inl (.inl ⟨e1, rfl, rfl⟩)) (((s0.trans s2).trans s3).trans s4)
    · refine Rx.caught T.X_WayError T.s_BadLetter_WayError fun ea na => ?_
      walk_at "rd"
      refine ⟨Nat.le_of_ble_eq_true rfl, Rd.new fun p1 G1 n1 g1 s3 => ?_⟩
      walk_at "rd"
      refine Rx.isX T.X_BadLetter T.X_BadName T.s_BadLetter_BadName (s3 _ _ hd) ?_
      walk_at "rd"
      refine Rx.isX T.X_BadLetter T.X_BadLetter T.s_BadLetter_BadLetter (s3 _ _ hd) ?_
      walk_at "rd"
      refine Rx.isX T.X_BadLetter T.X_BadName T.s_BadLetter_BadName (s3 _ _ hd) ?_
      walk_at "rd"
      refine Rx.xv T.X_BadLetter (s3 _ _ hd) ?_
      walk_at "rd"
      refine ⟨Nat.le_of_ble_eq_true rfl, Rd.new fun p2 G2 n2 g2 s4 => ?_⟩
      walk_at "rd"
      exact k p2 _ _ G2 g2 (.inl (.inr (.inl ⟨e1, e2, rfl, rfl⟩))) (((s0.trans s2).trans s3).trans s4)
    · refine Rx.caught T.X_WayError T.s_BadName_WayError fun ea na => ?_
      walk_at "rd"
      refine ⟨Nat.le_of_ble_eq_true rfl, Rd.new fun p1 G1 n1 g1 s3 => ?_⟩
      walk_at "rd"
      refine Rx.isX T.X_BadName T.X_BadName T.s_BadName_BadName (s3 _ _ hd) ?_
      walk_at "rd"
      refine Rx.isX T.X_BadName T.X_BadLetter T.s_BadName_BadLetter (s3 _ _ hd) ?_
      walk_at "rd"
      refine Rx.xv T.X_BadName (s3 _ _ hd) ?_
      walk_at "rd"
      refine ⟨Nat.le_of_ble_eq_true rfl, Rd.new fun p2 G2 n2 g2 s4 => ?_⟩
      walk_at "rd"
      exact k p2 _ _ G2 g2 (.inl (.inr (.inr ⟨e1, e2, e3, rfl, rfl⟩))) (((s0.trans s2).trans s3).trans s4)
    · walk_at "rd"
      refine ⟨Nat.le_of_ble_eq_true rfl, Rd.new fun p2 G2 n2 g2 s4 => ?_⟩
      walk_at "rd"
      exact k p2 _ _ G2 g2 (.inr ⟨p, l, q, e1, e2, e3, m1, m2, m3, rfl, hu.same s4⟩) ((s0.trans s2).trans s4)
def sp_l_is_place (K : PySem.W.Frag) : Sp := fun vs H Q _ => ∃ (x : V) (a : Addr) (ns : List Str) (k1 : Rx.Kd), vs = [x, .ref a] ∧ H a = some (.lst (ns.map V.str)) ∧ Rx.Is H x k1 ∧ Q (.bl (plc ns k1)) H
theorem ok_l_is_place (T : Txt K mg) : FnOk P w K mg base CX0 1 T.f_l_is_place T.fd_l_is_place ["_law_thing", "_law_names_here"] (sp_l_is_place K) := by
  refine T.F_l_is_place.ok sc_l_is_place (fun vs H Q E h => ?_) (fun cdv A outer s H vs Q E hr h => ?_)
  · obtain ⟨x, a, ns, k1, rfl, _⟩ := h
    rfl
  · obtain ⟨x, a, ns, k1, rfl, ha, i1, k⟩ := h
    refine ⟨_, (pss_one (ps_ret (pe_and (pe_callB (id := "isinstance") (r := rIsi K) call_isi (by rfl) T.n_isinstance (by decide +kernel) (pa_cons (pv 0) (pa_cons (pe_bltn (v := .ty "str") (u := .type "str") (by rfl) T.n_str (by decide +kernel) rfl) pa_nil))) (pe_one (pe_cmpR (r := rIn K false) op_in_seq (pv 0) (pv 1) (by rfl)))))), ?_⟩
    rcases str_or i1 with ⟨p, rfl, rfl, pl⟩ | e1
    · walk_at "rd"
      refine Rd.isiStr ?_
      walk_at "rd"
      refine Rd.inStrsY (.inl (.of ha)) ?_
      exact k
    · walk_at "rd"
      refine Rx.askStr i1 ?_
      rw [e1]
      walk_at "rd"
      rw [plc_no e1] at k
      exact k
theorem AsksW.same {CR : Addr} {H H' : Hp} {wd : Wd} {ns : List Str} {rs : List (Rk3 × Pv)} {x y z : V} {k1 k2 k3 : Rx.Kd} {w : Str} {v : V} (s : Same H H') (h : AsksW CR H wd ns rs x y z k1 k2 k3 w v) : AsksW CR H' wd ns rs x y z k1 k2 k3 w v :=
  h.imp id fun ⟨p, l, q, e1, e2, e3, m1, m2, m3, ew, hv⟩ => ⟨p, l, q, e1, e2, e3, m1, m2, m3, ew, hv.same s⟩
def sp_l_right (K : PySem.W.Frag) (CR : Addr) : Sp := fun vs H Q _ => ∃ (x0 : V) (t a d p : Addr) (x y z : V) (wd : Wd) (ns : List Str) (rs : List (Ri3 × Pv)) (k1 k2 k3 : Rx.Kd) (w : Str) (v : V), vs = [x0, .ref a, .ref d, x, y, z, .ref p] ∧ WoAt H x0 wd ∧ H a = some (.lst (ns.map V.str)) ∧ ns.Nodup ∧ RdD H d rs ∧ RdsOk wd ns.length rs ∧
  Rx.Is H x k1 ∧ Rx.Is H y k2 ∧ Rx.Is H z k3 ∧ H p = some (.tup [.str w, v]) ∧ AsksW CR H wd ns (named ns rs) x y z k1 k2 k3 w v ∧ ∀ H', Same H H' → Q (.bl true) H'
theorem is_self {H : Hp} {x : V} {k : Rx.Kd} (i : Rx.Is H x k) : flatB x = true ∨ ∃ a, x = .ref a := by
  cases i <;> first | exact .inl rfl | exact .inr ⟨_, rfl⟩
theorem one_sign {l : Str} (h : l.length = 1) : ∃ ch, l = ⟨#[ch]⟩ := by
  obtain ⟨⟨cs⟩⟩ := l
  match cs, h with
  | [c], _ => exact ⟨c, rfl⟩
theorem due_inj {CR : Addr} {H : Hp} {wd : Wd} {ns : List Str} {rs : List (Rk3 × Pv)} {x y z : V} {k1 k2 k3 : Rx.Kd} {u w : Str} {y1 v : V} (h : Due ns x y z k1 k2 k3 u y1) (a : AsksW CR H wd ns rs x y z k1 k2 k3 w v) : u = w ∧ y1 = v := by
  rcases a with a | ⟨p, l, q, rfl, rfl, rfl, m1, m2, m3, _⟩
  · rcases h with ⟨h1, rfl, rfl⟩ | ⟨h1, h2, rfl, rfl⟩ | ⟨h1, h2, h3, rfl, rfl⟩ <;> rcases a with ⟨a1, rfl, rfl⟩ | ⟨a1, a2, rfl, rfl⟩ | ⟨a1, a2, a3, rfl, rfl⟩ <;> first | exact ⟨rfl, rfl⟩ | (rw [h1] at a1; cases a1; done) | exact absurd a2 h2 | exact absurd h2 a2
  · have p1 : plc ns (.str p) = true := decide_eq_true m1
    have p3 : plc ns (.str q) = true := decide_eq_true m3
    rcases h with ⟨h1, _⟩ | ⟨_, h2, _⟩ | ⟨_, _, h3, _⟩
    · rw [h1] at p1; cases p1
    · exact absurd ⟨l, rfl, m2⟩ h2
    · rw [h3] at p3; cases p3
theorem plc_str {ns : List Str} {k : Rx.Kd} (h : plc ns k = true) : ∃ z, k = .str z := by
  cases k <;> first | exact ⟨_, rfl⟩ | cases h
theorem is_str {H : Hp} {x : V} {z : Str} (h : Rx.Is H x (.str z)) : x = .str z := by
  cases h
  rfl
theorem fz_szA {D B k : Nat} {v : Pv} (h : v.fz D B) (d0 : 0 < D) (hd : D < 2 ^ k) (hb : B < 2 ^ k) : v.sz k := by
  cases v with
  | rat r =>
    obtain ⟨z, rfl, b⟩ := h
    exact Sz.divInt (by omega) (Nat.lt_of_le_of_lt b hb) (by rw [Int.natAbs_natCast]; exact hd)
  | _ => exact trivial
theorem not_num_szA {wd : Wd} {v : Pv} {k : Nat} (h : wd.isNum = false) (a : wd.has v) : v.sz k := by
  cases v with
  | non => exact trivial
  | int i => exact trivial
  | rat r =>
    cases wd with
    | num => cases h
    | len => exact a.elim
    | rk n J M z o => exact a.elim
theorem road_sz {wd : Wd} {v : Pv} (h : wd.has v) (f : v = wd.noneP ∨ v.fz 42 43000) : v.sz 3000 := by
  cases hw : wd.isNum with
  | false => exact not_num_szA hw h
  | true =>
    rcases f with rfl | f
    · cases wd with
      | num => exact fz_szA (D := 1) (B := 0) (v := .rat 0) ⟨0, by rw [Rat.zero_divInt], Nat.le_refl _⟩ (by decide) (by decide) (by decide)
      | len => cases hw
      | rk n J M z o => cases hw
    · exact fz_szA f (by decide) (by decide) (by decide)
theorem indexS {H : Hp} {a : Addr} {ns : List Str} {z : Str} (h : H a = some (.lst (ns.map V.str))) (nd : ns.Nodup) (m : z ∈ ns) : ∃ j, j < ns.length ∧ ns.getD j "" = z ∧ ∀ Q : VK, Q (.int (j : Nat)) H → rIndex K (.ref a) [.str z] H Q := by
  obtain ⟨j, hj⟩ := List.mem_iff_getElem?.mp m
  have jl := (List.getElem?_eq_some_iff.mp hj).1
  refine ⟨j, jl, getD_of hj, fun Q q => ⟨a, _, .str z, j, .str z, rfl, rfl, .of h, rfl, flat_strs ns, by rw [List.getElem?_map, hj]; rfl, by simp [eqV], fun m z' lt e => ?_, q⟩⟩
  rw [List.getElem?_map] at e
  cases e2 : ns[m]? with
  | none => rw [e2] at e; cases e
  | some y =>
    rw [e2] at e
    obtain rfl : V.str y = z' := Option.some.inj e
    have ne : y ≠ z := fun c => by
      subst c
      have h1 := List.getElem?_eq_some_iff.mp hj
      have h2 := List.getElem?_eq_some_iff.mp e2
      have := (List.getElem_inj nd).mp (h1.2.trans h2.2.symm)
      omega
    simp [eqV, ne]
theorem ok_l_right (T : Txt K mg) : FnOk P w K mg base CX0 2 T.f_l_right T.fd_l_right ["_law_world_here", "_law_names_here", "_law_roads_here", "_law_one_here", "_law_letter_here", "_law_other", "_law_told"] (sp_l_right K T.C_Ratio) := by
  refine T.F_l_right.ok sc_l_right (fun vs H Q E h => ?_) (fun cdv A outer s H vs Q E hr h => ?_)
  · obtain ⟨x0, t, a, d, p, x, y, z, wd, ns, rs, k1, k2, k3, w, v, rfl, _⟩ := h
    rfl
  · obtain ⟨x0, t, a, d, p, x, y, z, wd, ns, rs, k1, k2, k3, w, v, rfl, hW, ha, nd, hd, ro, i1, i2, i3, hp, hA, k⟩ := h
    refine ⟨_, (pss_cons (ps_set (i := 7) sc_l_right.nd rfl (.inl rfl) pe_non)
  (C8.pss_cut (ps_if (pt_not (pt_val (pe_call (ok_l_is_place T) (hr.mono (by decide)) rfl T.g_l_is_place T.F_l_is_place.kp T.b_l_is_place .nil pass0 (pa_cons (pv 3) (pa_cons (pv 1) pa_nil)))))
  (pss_one (ps_set (i := 7) sc_l_right.nd rfl (.inl rfl) (pe_tup (pa_cons pe_str (pa_cons (pv 3) pa_nil)))))
  (pss_one (ps_if (PW.pt (pw_or (pt_not (pt_val (pe_callB (id := "isinstance") (r := rIsi K) call_isi (by rfl) T.n_isinstance (by decide +kernel) (pa_cons (pv 4) (pa_cons (pe_bltn (v := .ty "str") (u := .type "str") (by rfl) T.n_str (by decide +kernel) rfl) pa_nil))))) (pw_or (pt_cmpR op_ne (pe_callB (id := "len") (r := _) Rd.c_lenS (by rfl) T.n_len (by decide +kernel) (pa_cons (pv 4) pa_nil)) pe_int (nomark _)) (pw_or1 (pt_cmpR op_notIn_sign (pv 4) pe_str rfl)))))
  (pss_one (ps_set (i := 7) sc_l_right.nd rfl (.inl rfl) (pe_tup (pa_cons pe_str (pa_cons (pv 4) pa_nil)))))
  (pss_one (ps_if (pt_not (pt_val (pe_call (ok_l_is_place T) (hr.mono (by decide)) rfl T.g_l_is_place T.F_l_is_place.kp T.b_l_is_place .nil pass0 (pa_cons (pv 5) (pa_cons (pv 1) pa_nil)))))
  (pss_one (ps_set (i := 7) sc_l_right.nd rfl (.inl rfl) (pe_tup (pa_cons pe_str (pa_cons (pv 5) pa_nil)))))
  pss_nil)))))
  (pss_cons (ps_if (pt_cmpR op_notN (pv 7) pe_non (nomark _))
  (pss_one (ps_ret (pe_and (pe_cmpR (r := Rx.rEqX K) (Rx.op_eqX (Rx.u66 hr)) (pv 6) (pv 7) (nomark _)) (pe_one (pe_cmpR op_eq (pe_callB (id := "isinstance") (r := rIsi K) call_isi (by rfl) T.n_isinstance (by decide +kernel) (pa_cons (pe_ix (r := rIxT K) ix_tup (pv 6) pe_int (fun _ _ => rfl)) (pa_cons (pe_bltn (v := .ty "bool") (u := .type "bool") (by rfl) T.n_bool (by decide +kernel) rfl) pa_nil))) (pe_callB (id := "isinstance") (r := rIsi K) call_isi (by rfl) T.n_isinstance (by decide +kernel) (pa_cons (pe_ix (r := rIxT K) ix_tup (pv 7) pe_int (fun _ _ => rfl)) (pa_cons (pe_bltn (v := .ty "bool") (u := .type "bool") (by rfl) T.n_bool (by decide +kernel) rfl) pa_nil))) (nomark _))))))
  pss_nil)
  (pss_cons (ps_set (i := 8) sc_l_right.nd rfl (.inl rfl) (pe_tup (pa_cons (pe_bm PySem.F.plainAttrs_list PySem.F.slot_list_index PySem.F.type_list_index mt_index (pv 1) (pa_cons (pv 3) pa_nil)) (pa_cons (pv 4) (pa_cons (pe_bm PySem.F.plainAttrs_list PySem.F.slot_list_index PySem.F.type_list_index mt_index (pv 1) (pa_cons (pv 5) pa_nil)) pa_nil)))))
  (pss_one (ps_ret (pe_and (pe_cmpR op_eq (pe_ix (r := rIxT K) ix_tup (pv 6) pe_int (fun _ _ => rfl)) pe_str (nomark _)) (pe_one (pe_call (ok_l_is_worth T) (hr.mono (by decide)) rfl T.g_l_is_worth T.F_l_is_worth.kp T.b_l_is_worth .nil pass0 (pa_cons (pv 0) (pa_cons (pe_ix (r := rIxT K) ix_tup (pv 6) pe_int (fun _ _ => rfl)) (pa_cons (pe_dget2 (hu_of hr) (pv 2) (pv 8) (pe_call (ok_l_none T) (hr.mono (by decide)) rfl T.g_l_none T.F_l_none.kp T.b_l_none .nil pass0 (pa_cons (pv 0) pa_nil)) ⟨rfl, rfl, rfl, rfl⟩) pa_nil)))))))))))), ?_⟩
    have fin : ∀ (q : Addr) (u : Str) (G : Hp) (y1 : V) (kd : Rx.Kd), G q = some (.tup [.str u, y1]) → G p = some (.tup [.str u, y1]) → Rx.Is G y1 kd → Rx.TupEq K G (.ref p) (.ref q) := fun q u G y1 kd gq gp i =>
      ⟨p, q, _, _, rfl, rfl, .of gp, .of gq, Bw.eqIs_self fun e me => by
        rcases List.mem_cons.mp me with rfl | me
        · exact .inl rfl
        · rw [List.mem_singleton.mp me]
          exact is_self i⟩
    walk_at "rd"
    refine Rd.cut (fun σ G => Same H G ∧ ((∃ (q : Addr) (u : Str) (y1 : V) (kd : Rx.Kd), σ = [some x0, some (.ref a), some (.ref d), some x, some y, some z, some (.ref p), some (.ref q), none] ∧ G q = some (.tup [.str u, y1]) ∧ Due ns x y z k1 k2 k3 u y1 ∧ Rx.Is G y1 kd) ∨ (σ = [some x0, some (.ref a), some (.ref d), some x, some y, some z, some (.ref p), some .non, none] ∧ plc ns k1 = true ∧ LtK k2 ∧ plc ns k3 = true))) ?_ ?_
    · walk_at "rd"
      refine ⟨x, a, ns, k1, rfl, ha, i1, ?_⟩
      walk_at "rd"
      cases c1 : plc ns k1 with
      | false =>
        refine Rd.no (fun e => nomatch e) ?_
        walk_at "rd"
        refine ⟨Nat.le_of_ble_eq_true rfl, Rd.new fun q G nq gq s => ?_⟩
        walk_at "rd"
        exact ⟨s, .inl ⟨q, _, _, k1, rfl, gq, .inl ⟨c1, rfl, rfl⟩, i1.same s⟩⟩
      | true =>
        refine Rd.yes rfl ?_
        walk_at "rd"
        rcases str_or i2 with ⟨l, rfl, rfl, ll⟩ | e2
        · refine Rd.isiStr ?_
          walk_at "rd"
          refine Rd.lenStr (z := l) (by rw [sizeLine_eq]; omega) ?_
          walk_at "rd"
          by_cases c2 : l.length = 1
          · obtain ⟨ch, rfl⟩ : ∃ ch, l = ⟨#[ch]⟩ := one_sign c2
            rw [if_pos (show (((⟨#[ch]⟩ : Str).length : Nat) : Int) = 1 by rw [c2]; rfl)]
            walk_at "rd"
            refine ⟨ch, _, rfl, rfl, ?_⟩
            walk_at "rd"
            by_cases c3 : ch ∈ (Lt.Abc).cps.toList
            · have lt : LtK (.str ⟨#[ch]⟩) := ⟨_, rfl, Lt.Let.one c3, rfl⟩
              refine Rd.yes (show ch ∈ (Str.ofString "abcdefghijklmnopqrstuvwxyz").cps.toList from c3) ?_
              walk_at "rd"
              refine ⟨z, a, ns, k3, rfl, ha, i3, ?_⟩
              walk_at "rd"
              cases c4 : plc ns k3 with
              | false =>
                refine Rd.no (fun e => nomatch e) ?_
                walk_at "rd"
                refine ⟨Nat.le_of_ble_eq_true rfl, Rd.new fun q G nq gq s => ?_⟩
                walk_at "rd"
                exact ⟨s, .inl ⟨q, _, _, k3, rfl, gq, .inr (.inr ⟨c1, lt, c4, rfl, rfl⟩), i3.same s⟩⟩
              | true =>
                refine Rd.yes rfl ?_
                walk_at "rd"
                exact ⟨Same.refl _, .inr ⟨rfl, rfl, lt, rfl⟩⟩
            · refine Rd.no (show ¬ ch ∈ (Str.ofString "abcdefghijklmnopqrstuvwxyz").cps.toList from c3) ?_
              walk_at "rd"
              refine ⟨Nat.le_of_ble_eq_true rfl, Rd.new fun q G nq gq s => ?_⟩
              walk_at "rd"
              exact ⟨s, .inl ⟨q, _, _, _, rfl, gq, .inr (.inl ⟨c1, (fun ⟨z, e, h⟩ => c3 (by cases e; exact h.1 ch (by simp))), rfl, rfl⟩), i2.same s⟩⟩
          · rw [if_neg (show ¬ ((l.length : Nat) : Int) = 1 by omega)]
            walk_at "rd"
            refine ⟨Nat.le_of_ble_eq_true rfl, Rd.new fun q G nq gq s => ?_⟩
            walk_at "rd"
            exact ⟨s, .inl ⟨q, _, _, _, rfl, gq, .inr (.inl ⟨c1, (fun ⟨z, e, h⟩ => c2 (by cases e; exact h.2)), rfl, rfl⟩), i2.same s⟩⟩
        · refine Rx.askStr i2 ?_
          rw [e2]
          walk_at "rd"
          refine ⟨Nat.le_of_ble_eq_true rfl, Rd.new fun q G nq gq s => ?_⟩
          walk_at "rd"
          exact ⟨s, .inl ⟨q, _, _, k2, rfl, gq, .inr (.inl ⟨c1, ltk_no e2, rfl, rfl⟩), i2.same s⟩⟩
    · rintro _ G ⟨sG, ⟨q, u, y1, kd, rfl, gq, hD, iy⟩ | ⟨rfl, c1, c2, c3⟩⟩
      · obtain ⟨rfl, rfl⟩ := due_inj hD hA
        walk_at "rd"
        refine ⟨rfl, ?_⟩
        walk_at "rd"
        rw [if_neg (fun e => nomatch e)]
        walk_at "rd"
        refine ⟨fin q _ G _ kd gq (sG _ _ hp) iy, ?_⟩
        walk_at "rd"
        refine Rd.ixT (.of (sG _ _ hp)) (atI_nat (j := 1) rfl) ?_
        walk_at "rd"
        refine Rx.askBl iy ?_
        walk_at "rd"
        refine Rd.ixT (.of gq) (atI_nat (j := 1) rfl) ?_
        walk_at "rd"
        refine Rx.askBl iy ?_
        walk_at "rd"
        rw [show (kd.isBl == kd.isBl) = true from beq_self_eq_true _]
        exact k G sG
      · walk_at "rd"
        refine ⟨rfl, ?_⟩
        walk_at "rd"
        rw [if_pos rfl]
        walk_at "rd"
        obtain ⟨p1, rfl⟩ := plc_str c1
        obtain ⟨l1, rfl, lt⟩ := c2
        obtain ⟨q1, rfl⟩ := plc_str c3
        have m1 : p1 ∈ ns := of_decide_eq_true c1
        have m3 : q1 ∈ ns := of_decide_eq_true c3
        obtain rfl : x = .str p1 := is_str i1
        obtain rfl : y = .str l1 := is_str i2
        obtain rfl : z = .str q1 := is_str i3
        rcases hA with hA | ⟨p', l', q', e1, e2, e3, _, _, _, rfl, hv⟩
        · rcases hA with ⟨h1, _⟩ | ⟨_, h2, _⟩ | ⟨_, _, h3, _⟩
          · rw [h1] at c1; cases c1
          · exact absurd ⟨l1, rfl, lt⟩ h2
          · rw [h3] at c3; cases c3
        cases e1
        cases e2
        cases e3
        refine Rd.tyL (.of (sG _ _ ha)) ?_
        walk_at "rd"
        obtain ⟨j1, j1l, j1e, x1⟩ := indexS (K := K) (sG _ _ ha) nd m1
        obtain ⟨j3, j3l, j3e, x3⟩ := indexS (K := K) (sG _ _ ha) nd m3
        refine x1 _ ?_
        walk_at "rd"
        refine Rd.tyL (.of (sG _ _ ha)) ?_
        walk_at "rd"
        refine x3 _ ?_
        walk_at "rd"
        refine ⟨Nat.le_of_ble_eq_true rfl, Rd.new fun c G2 n2 g2 s2 => ?_⟩
        have sG2 := sG.trans s2
        walk_at "rd"
        refine Rd.ixT (.of (sG2 _ _ hp)) (atI_nat (j := 0) rfl) ?_
        walk_at "rd"
        rw [if_pos rfl]
        walk_at "rd"
        refine Rd.ixT (.of (sG2 _ _ hp)) (atI_nat (j := 1) rfl) ?_
        walk_at "rd"
        obtain ⟨kvs, e, pr⟩ := hd.same sG2
        refine Bt.get2H ?_
        walk_at "rd"
        refine ⟨.inr ⟨_, .inl e⟩, ?_⟩
        walk_at "rd"
        refine ⟨x0, wd, rfl, hW.same sG2, fun y G3 hy s3 => ?_⟩
        refine ⟨_, DGet.t (k := keyI (j1, l1, j3)) (s3 _ _ e) (s3 _ _ g2), ?_⟩
        walk_at "rd"
        have o := hW.ok
        have hv3 := (hv.same sG2).same s3
        rw [show wd.road (named ns rs) p1 l1 q1 = (lookR rs (j1, l1, j3)).getD wd.noneP by
          unfold Wd.road
          rw [← j1e, ← j3e, named_look nd j1l j3l ro.ok]] at hv3
        rcases pi_val (k := (j1, l1, j3)) pr with ⟨e1, e2⟩ | ⟨yv, v', e1, e2, hv'⟩
        · rw [e1]
          rw [e2] at hv3
          exact ⟨x0, v, y, wd, wd.noneP, 10, rfl, (hW.same sG2).same s3, Wd.has_none o, hv3, hy, by decide, road_sz (Wd.has_none o) (.inl rfl), k _ (sG2.trans s3)⟩
        · rw [e1]
          rw [e2] at hv3
          have ok := ro.ok _ (lookR_mem e2)
          exact ⟨x0, v, yv, wd, v', 10, rfl, (hW.same sG2).same s3, ok.has, hv3, hv'.same s3, by decide, road_sz ok.has (.inr ok.fz), k _ (sG2.trans s3)⟩

end
end W

namespace W
open PySem PySem.Spec PyProof.Rows L2
section
variable {P : Program} {w : World} {K : PySem.W.Frag} {mg : Str → Option Value} {base : Heap}
open Mr (Rk joined joined_lt metF leftF rightF topF)
theorem obj_tape {t c a : Addr} {u : HO} {H H' : Hp} (ht : Tape H t c) (off : Rd.But t H H') (h : H a = some u) (nl : ∀ xs, u ≠ .lst xs) : H' a = some u := by
  have nt : a ≠ t := by
    obtain ⟨ns, x, y, z, u', _, g, _⟩ := ht
    intro e
    rw [e, g] at h
    exact nl _ (Option.some.inj h).symm
  exact off _ _ nt h
theorem ProI.tape {t c C : Addr} {x : V} {v : Pv} {H H' : Hp} (ht : Tape H t c) (off : Rd.But t H H') (h : ProI C H x v) : ProI C H' x v := by
  cases v with
  | rat r => obtain ⟨b, rfl, dx, h⟩ := h; exact ⟨b, rfl, dx, obj_tape ht off h (fun _ e => nomatch e)⟩
  | non => exact h
  | int i => exact h
theorem WebAt.tape {CK CL CN CR CW b t c : Addr} {H H' : Hp} {wd : Wd} {ns : List Str} {rs : List (Rk3 × Pv)} (ht : Tape H t c) (off : Rd.But t H H') (h : WebAt K CK CL CN CR CW H b wd ns rs) : WebAt K CK CL CN CR CW H' b wd ns rs := by
  obtain ⟨dx, re, p, kd, ro, kvs, xs, h0, h1, h2, h3, h4, h5, h6⟩ := h
  exact ⟨dx, re, p, kd, ro, kvs, xs, obj_tape ht off h0 (fun _ e => nomatch e), h1.tape ht off, obj_tape ht off h2 (fun _ e => nomatch e), obj_tape ht off h3 (fun _ e => nomatch e), pk_map (fun _ _ h => ⟨h.1, h.2.tape ht off⟩) h4, obj_tape ht off h5 (fun _ e => nomatch e), paired_map (fun _ _ ⟨p, x, e, h, i⟩ => ⟨p, x, e, obj_tape ht off h (fun _ e => nomatch e), i.tape ht off⟩) h6⟩
theorem let_of {z : Str} (h : (z.cps.toList.all fun c => decide (c ∈ Lt.Abc.cps.toList)) = true) : Lt.Let z := fun c m => of_decide_eq_true (List.all_eq_true.mp h c m)
section
variable {H G : Hp} {D : Addr} {kv0 : List (List Key × V)} (hD : H D = some (.dT kv0)) (off : ∀ b, b ≠ D → G b = H b)
include hD off
theorem atD {a : Addr} {u : HO} (h : H a = some u) (n : u ≠ .dT kv0) : G a = some u := by
  rw [off a (ne_of h hD n)]
  exact h
theorem tblDT {a : Addr} {n : Nat} {F : Nat → Nat → Nat} (h : TblT K H a n F) : TblT K G a n F := by
  obtain ⟨rs, h1, h2, h3⟩ := h
  have mv : ∀ {r : Addr} {xs : List V}, SqT K H r xs → SqT K G r xs := by
    intro r xs h
    rcases h with (h | ⟨o, h⟩) | h
    · exact .inl (.inl (atD hD off h (fun e => nomatch e)))
    · exact .inl (.inr ⟨o, atD hD off h (fun e => nomatch e)⟩)
    · exact .inr h
  exact ⟨rs, mv h1, h2, fun i r e => mv (h3 i r e)⟩
theorem ratD {C a : Addr} {r : Rat} (h : RatAt C H a r) : RatAt C G a r := let ⟨dx, e⟩ := h; ⟨dx, atD hD off e (fun e => nomatch e)⟩
theorem proD {C : Addr} {x : V} {v : Pv} (h : ProI C H x v) : ProI C G x v := by
  cases v with
  | rat r => obtain ⟨b, rfl, h⟩ := h; exact ⟨b, rfl, ratD hD off h⟩
  | non => exact h
  | int i => exact h
theorem reD {CK CL CN CR re : Addr} {wd : Wd} (h : ReAt K CK CL CN CR H re wd) : ReAt K CK CL CN CR G re wd := by
  cases wd with
  | len => obtain ⟨dx, h⟩ := h; exact ⟨dx, atD hD off h (fun e => nomatch e)⟩
  | num => obtain ⟨dx, n, o, h, hn, ho⟩ := h; exact ⟨dx, n, o, atD hD off h (fun e => nomatch e), ratD hD off hn, ratD hD off ho⟩
  | rk n J M z o =>
    obtain ⟨dx, j, p, m, l, r, h0, h1, h2, h3, h4, h5⟩ := h
    exact ⟨dx, j, p, m, l, r, atD hD off h0 (fun e => nomatch e), tblDT hD off h1, tblDT hD off h2, tblL_offU hD (fun _ e => nomatch e) off h3, tblL_offU hD (fun _ e => nomatch e) off h4, tblL_offU hD (fun _ e => nomatch e) off h5⟩
/-- a web while the law's dict of roads, which is another one, is locked -/
theorem webD {CK CL CN CR CW b : Addr} {wd : Wd} {ns : List Str} {rs : List (Rk3 × Pv)} {k : Ri3} {v : V} {i : Nat} (m : kv0[i]? = some (keyI k, v)) (h : WebAt K CK CL CN CR CW H b wd ns rs) : WebAt K CK CL CN CR CW G b wd ns rs := by
  obtain ⟨dx, re, p, kd, ro, kvs, xs, h0, h1, h2, h3, h4, h5, h6⟩ := h
  have ne : kd ≠ D := fun e => by
    rw [e, hD] at h3
    cases h3
    obtain ⟨r, _, e2, _⟩ := pk_get h4 m
    cases e2
  exact ⟨dx, re, p, kd, ro, kvs, xs, atD hD off h0 (fun e => nomatch e), reD hD off h1, atD hD off h2 (fun e => nomatch e), by rw [off kd ne]; exact h3, pk_map (fun _ _ h => ⟨h.1, proD hD off h.2⟩) h4, atD hD off h5 (fun e => nomatch e), paired_map (fun _ _ ⟨p, x, e, h, i⟩ => ⟨p, x, e, atD hD off h (fun e => nomatch e), proD hD off i⟩) h6⟩
end
def sp_law (K : PySem.W.Frag) : Sp := fun vs H Q _ => ∃ (a : Addr) (ns : List Int), vs = [.ref a] ∧ SqL K H a (ns.map V.int) ∧ ns.length ≤ 63 ∧ ∀ H', Q (.bl true) H'
theorem ok_law (T : Txt K mg) : FnOk P w K mg base CX0 12 T.f_law T.fd_law ["_law_script"] (sp_law K) := by
  refine T.F_law.ok sc_law (fun vs H Q E h => ?_) (fun cdv A outer s H vs Q E hr h => ?_)
  · obtain ⟨a, ns, rfl, _⟩ := h
    rfl
  · obtain ⟨a, ns, rfl, ha, _, k⟩ := h
    refine ⟨_, (pss_cons (ps_set (i := 1) sc_law.nd rfl (.inl rfl) (pe_call (ok_l_hand T) (hr.mono (by decide)) rfl T.g_l_hand T.F_l_hand.kp T.b_l_hand .nil pass0 (pa_cons (pv 0) pa_nil)))
  (pss_cons (ps_set (i := 2) sc_law.nd rfl (.inl rfl) (pe_call (ok_l_world T) (hr.mono (by decide)) rfl T.g_l_world T.F_l_world.kp T.b_l_world .nil pass0 (pa_cons (pv 1) pa_nil)))
  (pss_cons (ps_set (i := 3) sc_law.nd rfl (.inl rfl) (pe_call (ok_l_names T) (hr.mono (by decide)) rfl T.g_l_names T.F_l_names.kp T.b_l_names .nil pass0 (pa_cons (pv 1) (pa_cons (pe_op op_add pe_int (pe_call (ok_l_draw T) (hr.mono (by decide)) rfl T.g_l_draw T.F_l_draw.kp T.b_l_draw .nil pass0 (pa_cons (pv 1) (pa_cons pe_int pa_nil)))) pa_nil))))
  (pss_cons (ps_set (i := 4) sc_law.nd rfl (.inl rfl) (pe_call (ok_l_roads T) (hr.mono (by decide)) rfl T.g_l_roads T.F_l_roads.kp T.b_l_roads .nil pass0 (pa_cons (pv 1) (pa_cons (pv 2) (pa_cons (pe_callB (id := "len") (r := Rd.nLen K) Rd.c_len (by rfl) T.n_len (by decide +kernel) (pa_cons (pv 3) pa_nil)) (pa_cons pe_str pa_nil))))))
  (pss_cons (ps_set (i := 5) sc_law.nd rfl (.inl rfl) (pe_call (ok_l_web T) (hr.mono (by decide)) rfl T.g_l_web T.F_l_web.kp T.b_l_web .nil pass0 (pa_cons (pv 2) (pa_cons (pv 3) (pa_cons (pv 4) pa_nil)))))
  (pss_cons (ps_for PassesOwn.never rfl (pi_range1 rfl T.n_range (pa_cons pe_int pa_nil)) (pg_name (i := 6) sc_law.nd rfl (.inl rfl))
  (pss_cons (ps_set (i := 7) sc_law.nd rfl (.inl rfl) (pe_call (ok_l_place T) (hr.mono (by decide)) rfl T.g_l_place T.F_l_place.kp T.b_l_place .nil pass0 (pa_cons (pv 1) (pa_cons (pv 3) pa_nil))))
  (pss_cons (ps_set (i := 8) sc_law.nd rfl (.inl rfl) (pe_call (ok_l_letter T) (hr.mono (by decide)) rfl T.g_l_letter T.F_l_letter.kp T.b_l_letter .nil pass0 (pa_cons (pv 1) pa_nil)))
  (pss_cons (ps_set (i := 9) sc_law.nd rfl (.inl rfl) (pe_call (ok_l_place T) (hr.mono (by decide)) rfl T.g_l_place T.F_l_place.kp T.b_l_place .nil pass0 (pa_cons (pv 1) (pa_cons (pv 3) pa_nil))))
  (pss_one (ps_for PassesOwn.never rfl (pi_range1 rfl T.n_range (pa_cons pe_int pa_nil)) (pg_name (i := 10) sc_law.nd rfl (.inl rfl))
  (pss_one (ps_if (pt_not (pt_val (pe_call (ok_l_right T) (hr.mono (by decide)) rfl T.g_l_right T.F_l_right.kp T.b_l_right .nil pass0 (pa_cons (pv 2) (pa_cons (pv 3) (pa_cons (pv 4) (pa_cons (pv 7) (pa_cons (pv 8) (pa_cons (pv 9) (pa_cons (pe_call (ok_l_asked T) (hr.mono (by decide)) rfl T.g_l_asked T.F_l_asked.kp T.b_l_asked .nil pass0 (pa_cons (pv 5) (pa_cons (pv 7) (pa_cons (pv 8) (pa_cons (pv 9) pa_nil))))) pa_nil))))))))))
  (pss_one (ps_ret pe_bl))
  pss_nil))))))))
  (pss_cons (ps_lock (ps_for PassesOwn.never rfl (pi_keys (pv 4)) (pg_name (i := 11) sc_law.nd rfl (.inl rfl))
  (pss_cons (ps_set (i := 12) sc_law.nd rfl (.inl rfl) (pe_call (ok_l_asked T) (hr.mono (by decide)) rfl T.g_l_asked T.F_l_asked.kp T.b_l_asked .nil pass0 (pa_cons (pv 5) (pa_cons (pe_ix (r := rIxL K) ix_list (pv 3) (pe_ix (r := rIxT K) ix_tup (pv 11) pe_int (fun _ _ => rfl)) (fun _ _ => rfl)) (pa_cons (pe_ix (r := rIxT K) ix_tup (pv 11) pe_int (fun _ _ => rfl)) (pa_cons (pe_ix (r := rIxL K) ix_list (pv 3) (pe_ix (r := rIxT K) ix_tup (pv 11) pe_int (fun _ _ => rfl)) (fun _ _ => rfl)) pa_nil))))))
  (pss_one (ps_if (PW.pt (pw_or (pt_cmpR op_ne (pe_ix (r := rIxT K) ix_tup (pv 12) pe_int (fun _ _ => rfl)) pe_str (nomark _)) (pw_or1 (pt_not (pt_val (pe_call (ok_l_is_worth T) (hr.mono (by decide)) rfl T.g_l_is_worth T.F_l_is_worth.kp T.b_l_is_worth .nil pass0 (pa_cons (pv 2) (pa_cons (pe_ix (r := rIxT K) ix_tup (pv 12) pe_int (fun _ _ => rfl)) (pa_cons (pe_dget (hu_of hr) (pv 4) (pv 11) (fun _ _ => rfl)) pa_nil)))))))))
  (pss_one (ps_ret pe_bl))
  pss_nil)))))
  (pss_one (ps_ret pe_bl))))))))), ?_⟩
    walk_at "rd"
    refine ⟨a, ns, rfl, ha, fun t c H1 hT1 s1 n1 n2 => ?_⟩
    walk_at "rd"
    refine ⟨t, c, rfl, hT1, fun x wd H2 hW hT2 b2 => ?_⟩
    clear hT1 b2 s1 ha n1 n2
    have o := hW.ok
    walk_at "rd"
    refine drawR hT2 (by decide) (by decide) fun sh H4 sh0 sh1 hT4 b4 => ?_
    obtain ⟨n, en, n1, n6⟩ : ∃ n : Nat, 1 + sh = (n : Nat) ∧ 1 ≤ n ∧ n ≤ 6 := ⟨(1 + sh).toNat, by omega, by omega, by omega⟩
    have hW4 := hW.tape hT2 b4
    walk_at "rd"
    rw [en]
    refine ⟨t, c, n, rfl, hT4, by omega, fun na ns H5 ha nat nl nd nw hT5 b5 => ?_⟩
    subst nl
    have hW5 := hW4.tape hT4 b5
    clear hW hW4 hT2 hT4 b4 sh0 sh1 en b5
    walk_at "rd"
    refine Rd.len (.inl (.of ha)) ?_
    rw [List.length_map]
    walk_at "rd"
    refine ⟨t, c, ns.length, x, wd, "ab", rfl, hT5, hW5, by omega, let_of (by decide +kernel), by decide +kernel, fun d rs H8 hr ro rl hT8 b8 => ?_⟩
    have hW8 := hW5.tape hT5 b8
    have ha8 := b8 _ _ nat ha
    walk_at "rd"
    refine ⟨x, na, d, wd, ns, rs, rfl, hW8, ha8, ⟨by omega, by omega, nd, nw⟩, hr, ro, rl, fun b H9 hb s9 => ?_⟩
    have hT9 := hT8.same s9
    have hW9 := hW8.same s9
    have hr9 := hr.same s9
    have ha9 := s9 _ _ ha8
    clear hW5 hW8 hT5 hT8 hr ha ha8 b8 s9
    walk_at "rd"
    refine Rd.forS ?_
    walk_at "rd"
    refine ⟨by decide, by decide, ?_⟩
    rw [show Int.toNat 12 = 12 from rfl]
    refine for_range (lo := 0) (n := 12) (fun i σ G => (∃ (o6 o7 o8 o9 o10 : Option V), σ = [some (.ref a), some (.ref t), some x, some (.ref na), some (.ref d), some (.ref b), o6, o7, o8, o9, o10, none, none]) ∧ Tape G t c ∧ Rd.But t H9 G) ⟨⟨_, _, _, _, _, rfl⟩, hT9, .refl _ _⟩ ?_ ?_
    · rintro i _ G hi ⟨⟨o6, o7, o8, o9, o10, rfl⟩, hTG, bG⟩
      walk_at "rd"
      refine ⟨t, c, na, ns, rfl, hTG, bG _ _ nat ha9, nat, by omega, by omega, nw, fun x1 G1 h1 hT1 b1 => ?_⟩
      walk_at "rd"
      refine ⟨t, c, rfl, hT1, fun x2 G2 h2 hT2 b2 => ?_⟩
      walk_at "rd"
      have b02 := (bG.trans b1).trans b2
      refine ⟨t, c, na, ns, rfl, hT2, b02 _ _ nat ha9, nat, by omega, by omega, nw, fun x3 G3 h3 hT3 b3 => ?_⟩
      have b03 := b02.trans b3
      have h1 := (h1.tape b2).tape b3
      have h2 := h2.tape b3
      obtain ⟨⟨k1, i1⟩, _⟩ := h1
      obtain ⟨⟨k2, i2⟩, _⟩ := h2
      obtain ⟨⟨k3, i3⟩, _⟩ := h3
      have hW3 := hW9.tape hT9 b03
      have hr3 := hr9.tape hT9 b03
      have hb3 := hb.tape hT9 b03
      have ha3 := b03 _ _ nat ha9
      walk_at "rd"
      refine Rd.forS ?_
      walk_at "rd"
      refine ⟨by decide, by decide, ?_⟩
      rw [show Int.toNat 2 = 2 from rfl]
      refine for_range (lo := 0) (n := 2) (fun j σ G => (∃ (o10 : Option V), σ = [some (.ref a), some (.ref t), some x, some (.ref na), some (.ref d), some (.ref b), some (.int (0 + (i : Int))), some x1, some x2, some x3, o10, none, none]) ∧ Same G3 G) ⟨⟨_, rfl⟩, .refl _⟩ ?_ ?_
      · rintro j _ G hj ⟨⟨o10, rfl⟩, sG⟩
        walk_at "rd"
        refine ⟨b, x1, x2, x3, wd, ns, named ns rs, k1, k2, k3, rfl, hb3.same sG, i1.same sG, i2.same sG, i3.same sG, fun p w v G4 hp hA s4 => ?_⟩
        have s04 := sG.trans s4
        walk_at "rd"
        refine ⟨x, t, na, d, p, x1, x2, x3, wd, ns, rs, k1, k2, k3, w, v, rfl, hW3.same s04, s04 _ _ ha3, nd, hr3.same s04, ro, i1.same s04, i2.same s04, i3.same s04, hp, hA, fun G5 s5 => ?_⟩
        walk_at "rd"
        exact ⟨⟨_, rfl⟩, s04.trans s5⟩
      · rintro _ G ⟨⟨o10, rfl⟩, sG⟩
        walk_at "rd"
        exact ⟨⟨_, _, _, _, _, rfl⟩, hT3.same sG, b03.same sG⟩
    · rintro _ G ⟨⟨o6, o7, o8, o9, o10, rfl⟩, hTG, bG⟩
      have hWG := hW9.tape hT9 bG
      have hrG := hr9.tape hT9 bG
      have hbG := hb.tape hT9 bG
      have haG := bG _ _ nat ha9
      obtain ⟨kvs, hd, pk⟩ := hrG
      have kl := Paired.length pk
      walk_at "rd"
      refine Bt.lockS hd trivial fun od G1 gd off1 => ?_
      have nad : na ≠ d := ne_of haG hd (fun e => nomatch e)
      have ha1 : G1 na = _ := (off1 na nad).trans haG
      have pk1 := pi_map (fun _ _ h => (⟨h.1, h.2.offU hd (fun _ z => nomatch z) off1⟩ : RoadI G1 _ _)) pk
      have hW1 : WoAt G1 x wd := hWG.offU hd (fun _ z => nomatch z) off1
      refine Rd.forS ?_
      walk_at "rd"
      refine Bt.keysT gd ?_
      refine for_it (n := rs.length) (by rw [← kl]; exact walk_keysT) (fun j σ G' => (∃ (o11 o12 : Option V), σ = [some (.ref a), some (.ref t), some x, some (.ref na), some (.ref d), some (.ref b), o6, o7, o8, o9, o10, o11, o12]) ∧ Same G1 G') ⟨⟨_, _, rfl⟩, .refl _⟩ (fun _ _ _ _ st => st.2 _ _ gd) ?_ ?_
      · rintro j y _ _ G2 hj ⟨⟨o11, o12, rfl⟩, s2⟩ ⟨rfl, kk, v, q, hkv, rfl, hq⟩
        obtain ⟨r, hr', hk, hv⟩ := pi_get pk1 hkv
        obtain rfl : kk = keyI r.1 := hk
        have ok := ro.ok r (List.mem_of_getElem? hr')
        obtain ⟨y0, w0, vy, vw, hy⟩ : ∃ y w, valV kvs (keyI r.1) = some y ∧ lookR rs r.1 = some w ∧ RawI 10 G1 y w := by
          rcases pi_val (k := r.1) pk1 with ⟨_, z⟩ | h
          · rw [look_of ro.nd hr'] at z
            cases z
          · exact h
        obtain rfl : w0 = r.2 := by
          rw [look_of ro.nd hr'] at vw
          exact (Option.some.inj vw).symm
        have hb1 := (webD hd off1 hkv hbG).same s2
        obtain ⟨⟨p1, l1, q1⟩, w0⟩ := r
        walk_at "rd"
        have hqT : SqT K G2 q [.int (p1 : Nat), .str l1, .int (q1 : Nat)] := .of hq
        refine Rd.ixT (i := 0) (v := .int (p1 : Nat)) hqT (Rd.atI_of (by decide) rfl) ?_
        refine Rd.ixL (.of (s2 _ _ ha1)) (atI_nat (by rw [List.getElem?_map, (getD_mem ok.frm).1]; rfl)) ?_
        walk_at "rd"
        refine Rd.ixT (i := 1) (v := .str l1) hqT (Rd.atI_of (by decide) rfl) ?_
        walk_at "rd"
        refine Rd.ixT (i := 2) (v := .int (q1 : Nat)) hqT (Rd.atI_of (by decide) rfl) ?_
        refine Rd.ixL (.of (s2 _ _ ha1)) (atI_nat (by rw [List.getElem?_map, (getD_mem ok.to).1]; rfl)) ?_
        walk_at "rd"
        have mp := (getD_mem ok.frm).2
        have mq := (getD_mem ok.to).2
        have lt : Lt1 l1 := ok.let1
        refine ⟨b, _, _, _, wd, ns, named ns rs, .str _, .str _, .str _, rfl, hb1, .str (by have := (nw _ mp).l1; omega), .str (by have := lt.2; omega), .str (by have := (nw _ mq).l1; omega), fun pp w v2 G3 hp hA s3 => ?_⟩
        rcases hA with hA | ⟨p', l', q', e1, e2, e3, _, _, _, rfl, hv2⟩
        · rcases hA with ⟨h1, _⟩ | ⟨_, h2, _⟩ | ⟨_, _, h3, _⟩
          · rw [show plc ns (.str (ns.getD p1 "")) = true from decide_eq_true mp] at h1; cases h1
          · exact absurd ⟨l1, rfl, lt⟩ h2
          · rw [show plc ns (.str (ns.getD q1 "")) = true from decide_eq_true mq] at h3; cases h3
        cases e1
        cases e2
        cases e3
        rw [show wd.road (named ns rs) (ns.getD p1 "") l1 (ns.getD q1 "") = w0 by
          unfold Wd.road
          rw [named_look nd ok.frm ok.to ro.ok, show lookR rs (p1, l1, q1) = some w0 from vw]
          rfl] at hv2
        walk_at "rd"
        refine Rd.ixT (.of hp) (atI_nat (j := 0) rfl) ?_
        walk_at "rd"
        rw [if_pos rfl]
        walk_at "rd"
        have s13 := s2.trans s3
        refine Rd.ixT (.of hp) (atI_nat (j := 1) rfl) ?_
        walk_at "rd"
        refine ⟨d, y0, rfl, .inr ⟨kvs, keyI (p1, l1, q1), q, .inr ⟨od, s13 _ _ gd⟩, rfl, s3 _ _ hq, vy.symm⟩, ?_⟩
        walk_at "rd"
        refine ⟨x, v2, y0, wd, w0, 10, rfl, hW1.same s13, ok.has, hv2, hy.same s13, by decide, road_sz ok.has (.inr ok.fz), ?_⟩
        walk_at "rd"
        exact ⟨⟨_, _, rfl⟩, s13⟩
      · rintro _ G2 ⟨⟨o11, o12, rfl⟩, s2⟩
        walk_at "rd"
        exact ⟨s2 _ _ gd, k _⟩

end
end W

namespace W
open PySem PySem.Spec PyProof.Rows L2
theorem all_hk {l : PySem.W.OpenLaw} {w : World} {K : PySem.W.Frag} {h h0 : Heap} {mg : Str → Option Value} {fa : Addr} (X : K.In h) (G : h.Ns mainGlobals mg) (hfa : mg "law" = some (.ref fa)) (c : He.SaysX hk_fa hk_fn [] [] hk_ex w h0 K) :
    ∃ fd : FuncData, (∀ (s : Shared) (v : Value), BindsTo s fd ⟨[v], []⟩ [("_law_script", v)]) ∧ ∀ base : Heap, K.In base → base.Ns mainGlobals mg → FnOk l.prog w K mg base CX0 12 fa fd ["_law_script"] (sp_law K) := by
  have hkE12 : hk_E12 K = true := c.more
  have hke12 : hk_e12 K = true := Hk.andR hkE12
  have hkE11 : hk_E11 K = true := Hk.andL hkE12
  have hke11 : hk_e11 K = true := Hk.andR hkE11
  have hkE10 : hk_E10 K = true := Hk.andL hkE11
  have hke10 : hk_e10 K = true := Hk.andR hkE10
  have hkE9 : hk_E9 K = true := Hk.andL hkE10
  have hke9 : hk_e9 K = true := Hk.andR hkE9
  have hkE8 : hk_E8 K = true := Hk.andL hkE9
  have hke8 : hk_e8 K = true := Hk.andR hkE8
  have hkE7 : hk_E7 K = true := Hk.andL hkE8
  have hke7 : hk_e7 K = true := Hk.andR hkE7
  have hkE6 : hk_E6 K = true := Hk.andL hkE7
  have hke6 : hk_e6 K = true := Hk.andR hkE6
  have hkE5 : hk_E5 K = true := Hk.andL hkE6
  have hke5 : hk_e5 K = true := Hk.andR hkE5
  have hkE4 : hk_E4 K = true := Hk.andL hkE5
  have hke4 : hk_e4 K = true := Hk.andR hkE4
  have hkE3 : hk_E3 K = true := Hk.andL hkE4
  have hke3 : hk_e3 K = true := Hk.andR hkE3
  have hkE2 : hk_E2 K = true := Hk.andL hkE3
  have hke2 : hk_e2 K = true := Hk.andR hkE2
  have hkE1 : hk_E1 K = true := Hk.andL hkE2
  have hke1 : hk_e1 K = true := Hk.andR hkE1
  have hkE0 : hk_E0 K = true := Hk.andL hkE1
  have hke0 : hk_e0 K = true := Hk.andR (a := true) hkE0
  obtain ⟨fd1, D1⟩ : ∃ fd, FunD K "__init__" "WayError.__init__" (defArgs s_WayError_init) (defBody s_WayError_init) (defScope s_WayError_init) [.non] [] (He.fAd K ("BadNumber", some "__init__")) fd := c.t.d.def_ 0 (d := hk_d1) rfl
  obtain ⟨fd2, F2⟩ := Hk.fun_of (K := K) (x := "is_integer") (qual := "is_integer") (st := s_is_integer) (p := ("is_integer", none)) (Hk.fnW_ c.t.d 1 (d := hk_d2) rfl) (Hk.get hke0 0 rfl)
  obtain ⟨fd3, F3⟩ := Hk.fun_of (K := K) (x := "common") (qual := "common") (st := s_common) (p := ("common", none)) (Hk.fnW_ c.t.d 2 (d := hk_d3) rfl) (Hk.get hke0 1 rfl)
  obtain ⟨fd4, D4⟩ : ∃ fd, FunD K "__init__" "Ratio.__init__" (defArgs s_Ratio_init) (defBody s_Ratio_init) (defScope s_Ratio_init) [.int 1] [] (He.fAd K ("Ratio", some "__init__")) fd := c.t.d.def_ 3 (d := hk_d4) rfl
  obtain ⟨fd5, F5⟩ := Hk.fun_of (K := K) (x := "is_number") (qual := "is_number") (st := s_is_number) (p := ("is_number", none)) (Hk.fnW_ c.t.d 4 (d := hk_d5) rfl) (Hk.get hke0 2 rfl)
  obtain ⟨fd6, F6⟩ := Hk.fun_of (K := K) (x := "__init__") (qual := "Numbers.__init__") (st := s_Numbers_init) (p := ("Numbers", some "__init__")) (Hk.fnW_ c.t.d 5 (d := hk_d6) rfl) (Hk.get hke0 3 rfl)
  obtain ⟨fd7, F7⟩ := Hk.fun_of (K := K) (x := "__eq__") (qual := "Numbers.__eq__") (st := s_Numbers_eq) (p := ("Numbers", some "__eq__")) (Hk.fnW_ c.t.d 6 (d := hk_d7) rfl) (Hk.get hke0 4 rfl)
  obtain ⟨fd8, F8⟩ := Hk.fun_of (K := K) (x := "is_worth") (qual := "Numbers.is_worth") (st := s_Numbers_is_worth) (p := ("Numbers", some "is_worth")) (Hk.fnW_ c.t.d 7 (d := hk_d8) rfl) (Hk.get hke0 5 rfl)
  obtain ⟨fd9, F9⟩ := Hk.fun_of (K := K) (x := "__init__") (qual := "Lengths.__init__") (st := s_Lengths_init) (p := ("Lengths", some "__init__")) (Hk.fnW_ c.t.d 8 (d := hk_d9) rfl) (Hk.get hke0 6 rfl)
  obtain ⟨fd10, F10⟩ := Hk.fun_of (K := K) (x := "__eq__") (qual := "Lengths.__eq__") (st := s_Lengths_eq) (p := ("Lengths", some "__eq__")) (Hk.fnW_ c.t.d 9 (d := hk_d10) rfl) (Hk.get hke0 7 rfl)
  obtain ⟨fd11, F11⟩ := Hk.fun_of (K := K) (x := "is_worth") (qual := "Lengths.is_worth") (st := s_Lengths_is_worth) (p := ("Lengths", some "is_worth")) (Hk.fnW_ c.t.d 10 (d := hk_d11) rfl) (Hk.get hke0 8 rfl)
  obtain ⟨fd12, F12⟩ := Hk.fun_of (K := K) (x := "is_square") (qual := "is_square") (st := s_is_square) (p := ("is_square", none)) (Hk.fnW_ c.t.d 11 (d := hk_d12) rfl) (Hk.get hke0 9 rfl)
  obtain ⟨fd13, F13⟩ := Hk.fun_of (K := K) (x := "check_size") (qual := "check_size") (st := s_check_size) (p := ("check_size", none)) (Hk.fnW_ c.t.d 12 (d := hk_d13) rfl) (Hk.get hke0 10 rfl)
  obtain ⟨fd14, F14⟩ := Hk.fun_of (K := K) (x := "check_singles") (qual := "check_singles") (st := s_check_singles) (p := ("check_singles", none)) (Hk.fnW_ c.t.d 13 (d := hk_d14) rfl) (Hk.get hke0 11 rfl)
  obtain ⟨fd15, F15⟩ := Hk.fun_of (K := K) (x := "check_swaps") (qual := "check_swaps") (st := s_check_swaps) (p := ("check_swaps", none)) (Hk.fnW_ c.t.d 14 (d := hk_d15) rfl) (Hk.get hke0 12 rfl)
  obtain ⟨fd16, F16⟩ := Hk.fun_of (K := K) (x := "check_grouping") (qual := "check_grouping") (st := s_check_grouping) (p := ("check_grouping", none)) (Hk.fnW_ c.t.d 15 (d := hk_d16) rfl) (Hk.get hke0 13 rfl)
  obtain ⟨fd17, F17⟩ := Hk.fun_of (K := K) (x := "check_over") (qual := "check_over") (st := s_check_over) (p := ("check_over", none)) (Hk.fnW_ c.t.d 16 (d := hk_d17) rfl) (Hk.get hke0 14 rfl)
  obtain ⟨fd18, F18⟩ := Hk.fun_of (K := K) (x := "joined") (qual := "Reckoning.joined") (st := s_Reckoning_joined) (p := ("Reckoning", some "joined")) (Hk.fnW_ c.t.d 17 (d := hk_d18) rfl) (Hk.get hke0 15 rfl)
  obtain ⟨fd19, F19⟩ := Hk.fun_of (K := K) (x := "met") (qual := "Reckoning.met") (st := s_Reckoning_met) (p := ("Reckoning", some "met")) (Hk.fnW_ c.t.d 18 (d := hk_d19) rfl) (Hk.get hke0 16 rfl)
  obtain ⟨fd20, F20⟩ := Hk.fun_of (K := K) (x := "__init__") (qual := "Reckoning.__init__") (st := s_Reckoning_init) (p := ("Reckoning", some "__init__")) (Hk.fnW_ c.t.d 19 (d := hk_d20) rfl) (Hk.get hke0 17 rfl)
  obtain ⟨fd21, F21⟩ := Hk.fun_of (K := K) (x := "__eq__") (qual := "Reckoning.__eq__") (st := s_Reckoning_eq) (p := ("Reckoning", some "__eq__")) (Hk.fnW_ c.t.d 20 (d := hk_d21) rfl) (Hk.get hke0 18 rfl)
  obtain ⟨fd22, F22⟩ := Hk.fun_of (K := K) (x := "is_worth") (qual := "Reckoning.is_worth") (st := s_Reckoning_is_worth) (p := ("Reckoning", some "is_worth")) (Hk.fnW_ c.t.d 21 (d := hk_d22) rfl) (Hk.get hke0 19 rfl)
  obtain ⟨fd23, F23⟩ := Hk.fun_of (K := K) (x := "check") (qual := "Reckoning.check") (st := s_Reckoning_check) (p := ("Reckoning", some "check")) (Hk.fnW_ c.t.d 22 (d := hk_d23) rfl) (Hk.get hke0 20 rfl)
  obtain ⟨fd24, F24⟩ := Hk.fun_of (K := K) (x := "join") (qual := "Reckoning.join") (st := s_Reckoning_join) (p := ("Reckoning", some "join")) (Hk.fnW_ c.t.d 23 (d := hk_d24) rfl) (Hk.get hke0 21 rfl)
  obtain ⟨fd25, F25⟩ := Hk.fun_of (K := K) (x := "times") (qual := "Reckoning.times") (st := s_Reckoning_times) (p := ("Reckoning", some "times")) (Hk.fnW_ c.t.d 24 (d := hk_d25) rfl) (Hk.get hke0 22 rfl)
  obtain ⟨fd26, F26⟩ := Hk.fun_of (K := K) (x := "check") (qual := "Lengths.check") (st := s_Lengths_check) (p := ("Lengths", some "check")) (Hk.fnW_ c.t.d 25 (d := hk_d26) rfl) (Hk.get hke0 23 rfl)
  obtain ⟨fd27, F27⟩ := Hk.fun_of (K := K) (x := "join") (qual := "Lengths.join") (st := s_Lengths_join) (p := ("Lengths", some "join")) (Hk.fnW_ c.t.d 26 (d := hk_d27) rfl) (Hk.get hke0 24 rfl)
  obtain ⟨fd28, F28⟩ := Hk.fun_of (K := K) (x := "times") (qual := "Lengths.times") (st := s_Lengths_times) (p := ("Lengths", some "times")) (Hk.fnW_ c.t.d 27 (d := hk_d28) rfl) (Hk.get hke0 25 rfl)
  obtain ⟨fd29, F29⟩ := Hk.fun_of (K := K) (x := "as_ratio") (qual := "as_ratio") (st := s_as_ratio) (p := ("as_ratio", none)) (Hk.fnW_ c.t.d 28 (d := hk_d29) rfl) (Hk.get hke0 26 rfl)
  obtain ⟨fd30, F30⟩ := Hk.fun_of (K := K) (x := "__add__") (qual := "Ratio.__add__") (st := s_Ratio_add) (p := ("Ratio", some "__add__")) (Hk.fnW_ c.t.d 29 (d := hk_d30) rfl) (Hk.get hke0 27 rfl)
  obtain ⟨fd31, F31⟩ := Hk.fun_of (K := K) (x := "__radd__") (qual := "Ratio.__radd__") (st := s_Ratio_radd) (p := ("Ratio", some "__radd__")) (Hk.fnW_ c.t.d 30 (d := hk_d31) rfl) (Hk.get hke0 28 rfl)
  obtain ⟨fd32, F32⟩ := Hk.fun_of (K := K) (x := "__mul__") (qual := "Ratio.__mul__") (st := s_Ratio_mul) (p := ("Ratio", some "__mul__")) (Hk.fnW_ c.t.d 31 (d := hk_d32) rfl) (Hk.get hke0 29 rfl)
  obtain ⟨fd33, F33⟩ := Hk.fun_of (K := K) (x := "__rmul__") (qual := "Ratio.__rmul__") (st := s_Ratio_rmul) (p := ("Ratio", some "__rmul__")) (Hk.fnW_ c.t.d 32 (d := hk_d33) rfl) (Hk.get hke0 30 rfl)
  obtain ⟨fd34, F34⟩ := Hk.fun_of (K := K) (x := "__eq__") (qual := "Ratio.__eq__") (st := s_Ratio_eq) (p := ("Ratio", some "__eq__")) (Hk.fnW_ c.t.d 33 (d := hk_d34) rfl) (Hk.get hke0 31 rfl)
  obtain ⟨fd35, F35⟩ := Hk.fun_of (K := K) (x := "check") (qual := "Numbers.check") (st := s_Numbers_check) (p := ("Numbers", some "check")) (Hk.fnW_ c.t.d 34 (d := hk_d35) rfl) (Hk.get hke0 32 rfl)
  obtain ⟨fd36, F36⟩ := Hk.fun_of (K := K) (x := "join") (qual := "Numbers.join") (st := s_Numbers_join) (p := ("Numbers", some "join")) (Hk.fnW_ c.t.d 35 (d := hk_d36) rfl) (Hk.get hke0 33 rfl)
  obtain ⟨fd37, F37⟩ := Hk.fun_of (K := K) (x := "times") (qual := "Numbers.times") (st := s_Numbers_times) (p := ("Numbers", some "times")) (Hk.fnW_ c.t.d 36 (d := hk_d37) rfl) (Hk.get hke0 34 rfl)
  obtain ⟨fd38, F38⟩ := Hk.fun_of (K := K) (x := "is_letters") (qual := "is_letters") (st := s_is_letters) (p := ("is_letters", none)) (Hk.fnW_ c.t.d 37 (d := hk_d38) rfl) (Hk.get hke0 35 rfl)
  obtain ⟨fd39, F39⟩ := Hk.fun_of (K := K) (x := "is_letter") (qual := "is_letter") (st := s_is_letter) (p := ("is_letter", none)) (Hk.fnW_ c.t.d 38 (d := hk_d39) rfl) (Hk.get hke0 36 rfl)
  obtain ⟨fd40, F40⟩ := Hk.fun_of (K := K) (x := "is_name") (qual := "is_name") (st := s_is_name) (p := ("is_name", none)) (Hk.fnW_ c.t.d 39 (d := hk_d40) rfl) (Hk.get hke0 37 rfl)
  obtain ⟨fd41, F41⟩ := Hk.fun_of (K := K) (x := "check_reckoning") (qual := "check_reckoning") (st := s_check_reckoning) (p := ("check_reckoning", none)) (Hk.fnW_ c.t.d 40 (d := hk_d41) rfl) (Hk.get hke0 38 rfl)
  obtain ⟨fd42, F42⟩ := Hk.fun_of (K := K) (x := "plain_worth") (qual := "plain_worth") (st := s_plain_worth) (p := ("plain_worth", none)) (Hk.fnW_ c.t.d 41 (d := hk_d42) rfl) (Hk.get hke0 39 rfl)
  obtain ⟨fd43, F43⟩ := Hk.fun_of (K := K) (x := "checked_places") (qual := "checked_places") (st := s_checked_places) (p := ("checked_places", none)) (Hk.fnW_ c.t.d 42 (d := hk_d43) rfl) (Hk.get hke1 0 rfl)
  obtain ⟨fd44, F44⟩ := Hk.fun_of (K := K) (x := "is_road") (qual := "is_road") (st := s_is_road) (p := ("is_road", none)) (Hk.fnW_ c.t.d 43 (d := hk_d44) rfl) (Hk.get hke1 1 rfl)
  obtain ⟨fd45, F45⟩ := Hk.fun_of (K := K) (x := "checked_roads") (qual := "checked_roads") (st := s_checked_roads) (p := ("checked_roads", none)) (Hk.fnW_ c.t.d 44 (d := hk_d45) rfl) (Hk.get hke1 2 rfl)
  obtain ⟨fd46, F46⟩ := Hk.fun_of (K := K) (x := "__init__") (qual := "Web.__init__") (st := s_Web_init) (p := ("Web", some "__init__")) (Hk.fnW_ c.t.d 45 (d := hk_d46) rfl) (Hk.get hke1 3 rfl)
  obtain ⟨fd47, F47⟩ := Hk.fun_of (K := K) (x := "worth") (qual := "Web.worth") (st := s_Web_worth) (p := ("Web", some "worth")) (Hk.fnW_ c.t.d 46 (d := hk_d47) rfl) (Hk.get hke1 4 rfl)
  obtain ⟨fd48, F48⟩ := Hk.fun_of (K := K) (x := "_law_hand") (qual := "_law_hand") (st := s_l_hand) (p := ("_law_hand", none)) (Hk.fnW_ c.t.d 47 (d := hk_d48) rfl) (Hk.get hke1 5 rfl)
  obtain ⟨fd49, F49⟩ := Hk.fun_of (K := K) (x := "_law_draw") (qual := "_law_draw") (st := s_l_draw) (p := ("_law_draw", none)) (Hk.fnW_ c.t.d 48 (d := hk_d49) rfl) (Hk.get hke1 6 rfl)
  obtain ⟨fd50, F50⟩ := Hk.fun_of (K := K) (x := "_law_chain") (qual := "_law_chain") (st := s_l_chain) (p := ("_law_chain", none)) (Hk.fnW_ c.t.d 49 (d := hk_d50) rfl) (Hk.get hke1 7 rfl)
  obtain ⟨fd51, F51⟩ := Hk.fun_of (K := K) (x := "_law_products") (qual := "_law_products") (st := s_l_products) (p := ("_law_products", none)) (Hk.fnW_ c.t.d 50 (d := hk_d51) rfl) (Hk.get hke1 8 rfl)
  obtain ⟨fd52, F52⟩ := Hk.fun_of (K := K) (x := "_law_monoid") (qual := "_law_monoid") (st := s_l_monoid) (p := ("_law_monoid", none)) (Hk.fnW_ c.t.d 51 (d := hk_d52) rfl) (Hk.get hke1 9 rfl)
  obtain ⟨fd53, F53⟩ := Hk.fun_of (K := K) (x := "_law_lot") (qual := "_law_lot") (st := s_l_lot) (p := ("_law_lot", none)) (Hk.fnW_ c.t.d 52 (d := hk_d53) rfl) (Hk.get hke1 10 rfl)
  obtain ⟨fd54, F54⟩ := Hk.fun_of (K := K) (x := "_law_lots") (qual := "_law_lots") (st := s_l_lots) (p := ("_law_lots", none)) (Hk.fnW_ c.t.d 53 (d := hk_d54) rfl) (Hk.get hke1 11 rfl)
  obtain ⟨fd55, F55⟩ := Hk.fun_of (K := K) (x := "_law_paired") (qual := "_law_paired") (st := s_l_paired) (p := ("_law_paired", none)) (Hk.fnW_ c.t.d 54 (d := hk_d55) rfl) (Hk.get hke1 12 rfl)
  obtain ⟨fd56, F56⟩ := Hk.fun_of (K := K) (x := "_law_beside") (qual := "_law_beside") (st := s_l_beside) (p := ("_law_beside", none)) (Hk.fnW_ c.t.d 55 (d := hk_d56) rfl) (Hk.get hke1 13 rfl)
  obtain ⟨fd57, F57⟩ := Hk.fun_of (K := K) (x := "_law_turned") (qual := "_law_turned") (st := s_l_turned) (p := ("_law_turned", none)) (Hk.fnW_ c.t.d 56 (d := hk_d57) rfl) (Hk.get hke1 14 rfl)
  obtain ⟨fd58, F58⟩ := Hk.fun_of (K := K) (x := "_law_order") (qual := "_law_order") (st := s_l_order) (p := ("_law_order", none)) (Hk.fnW_ c.t.d 57 (d := hk_d58) rfl) (Hk.get hke1 15 rfl)
  obtain ⟨fd59, F59⟩ := Hk.fun_of (K := K) (x := "_law_renamed") (qual := "_law_renamed") (st := s_l_renamed) (p := ("_law_renamed", none)) (Hk.fnW_ c.t.d 58 (d := hk_d59) rfl) (Hk.get hke1 16 rfl)
  obtain ⟨fd60, F60⟩ := Hk.fun_of (K := K) (x := "_law_made") (qual := "_law_made") (st := s_l_made) (p := ("_law_made", none)) (Hk.fnW_ c.t.d 59 (d := hk_d60) rfl) (Hk.get hke1 17 rfl)
  obtain ⟨fd61, F61⟩ := Hk.fun_of (K := K) (x := "_law_names") (qual := "_law_names") (st := s_l_names) (p := ("_law_names", none)) (Hk.fnW_ c.t.d 60 (d := hk_d61) rfl) (Hk.get hke1 18 rfl)
  obtain ⟨fd62, F62⟩ := Hk.fun_of (K := K) (x := "_law_reckoning") (qual := "_law_reckoning") (st := s_l_reckoning) (p := ("_law_reckoning", none)) (Hk.fnW_ c.t.d 61 (d := hk_d62) rfl) (Hk.get hke1 19 rfl)
  obtain ⟨fd63, F63⟩ := Hk.fun_of (K := K) (x := "_law_none") (qual := "_law_none") (st := s_l_none) (p := ("_law_none", none)) (Hk.fnW_ c.t.d 62 (d := hk_d63) rfl) (Hk.get hke1 20 rfl)
  obtain ⟨fd64, F64⟩ := Hk.fun_of (K := K) (x := "_law_handed") (qual := "_law_handed") (st := s_l_handed) (p := ("_law_handed", none)) (Hk.fnW_ c.t.d 63 (d := hk_d64) rfl) (Hk.get hke1 21 rfl)
  obtain ⟨fd65, F65⟩ := Hk.fun_of (K := K) (x := "_law_world") (qual := "_law_world") (st := s_l_world) (p := ("_law_world", none)) (Hk.fnW_ c.t.d 64 (d := hk_d65) rfl) (Hk.get hke1 22 rfl)
  obtain ⟨fd66, F66⟩ := Hk.fun_of (K := K) (x := "_law_worth") (qual := "_law_worth") (st := s_l_worth) (p := ("_law_worth", none)) (Hk.fnW_ c.t.d 65 (d := hk_d66) rfl) (Hk.get hke1 23 rfl)
  obtain ⟨fd67, F67⟩ := Hk.fun_of (K := K) (x := "_law_roads") (qual := "_law_roads") (st := s_l_roads) (p := ("_law_roads", none)) (Hk.fnW_ c.t.d 66 (d := hk_d67) rfl) (Hk.get hke1 24 rfl)
  obtain ⟨fd68, F68⟩ := Hk.fun_of (K := K) (x := "_law_web") (qual := "_law_web") (st := s_l_web) (p := ("_law_web", none)) (Hk.fnW_ c.t.d 67 (d := hk_d68) rfl) (Hk.get hke1 25 rfl)
  obtain ⟨fd69, F69⟩ := Hk.fun_of (K := K) (x := "_law_is_worth") (qual := "_law_is_worth") (st := s_l_is_worth) (p := ("_law_is_worth", none)) (Hk.fnW_ c.t.d 68 (d := hk_d69) rfl) (Hk.get hke1 26 rfl)
  obtain ⟨fd70, F70⟩ := Hk.fun_of (K := K) (x := "_law_place") (qual := "_law_place") (st := s_l_place) (p := ("_law_place", none)) (Hk.fnW_ c.t.d 69 (d := hk_d70) rfl) (Hk.get hke1 27 rfl)
  obtain ⟨fd71, F71⟩ := Hk.fun_of (K := K) (x := "_law_letter") (qual := "_law_letter") (st := s_l_letter) (p := ("_law_letter", none)) (Hk.fnW_ c.t.d 70 (d := hk_d71) rfl) (Hk.get hke1 28 rfl)
  obtain ⟨fd72, F72⟩ := Hk.fun_of (K := K) (x := "_law_asked") (qual := "_law_asked") (st := s_l_asked) (p := ("_law_asked", none)) (Hk.fnW_ c.t.d 71 (d := hk_d72) rfl) (Hk.get hke1 29 rfl)
  obtain ⟨fd73, F73⟩ := Hk.fun_of (K := K) (x := "_law_is_place") (qual := "_law_is_place") (st := s_l_is_place) (p := ("_law_is_place", none)) (Hk.fnW_ c.t.d 72 (d := hk_d73) rfl) (Hk.get hke1 30 rfl)
  obtain ⟨fd74, F74⟩ := Hk.fun_of (K := K) (x := "_law_right") (qual := "_law_right") (st := s_l_right) (p := ("_law_right", none)) (Hk.fnW_ c.t.d 73 (d := hk_d74) rfl) (Hk.get hke1 31 rfl)
  obtain ⟨fd75, F75⟩ := Hk.fun_of (K := K) (x := "law") (qual := "law") (st := s_law) (p := ("law", none)) (Hk.fnW_ c.t.d 74 (d := hk_d75) rfl) (Hk.get hke1 32 rfl)
  have u0 : PySem.W.nsIn K mainGlobals "Ratio" = some (some (.ref (He.ga K "Ratio"))) := of_decide_eq_true (Hk.get hke1 33 rfl)
  have pg0 : PySem.W.plainGet K (He.ga K "Ratio") Str.empty = true := of_decide_eq_true (Hk.get hke1 34 rfl)
  have hd0 : PySem.W.hasDictIn K (He.ga K "Ratio") = true := of_decide_eq_true (Hk.get hke1 35 rfl)
  have po0 : PySem.W.plainOver K (He.ga K "Ratio") = true := of_decide_eq_true (Hk.get hke1 36 rfl)
  have sa0 : PySem.W.findIn K (.ref (He.ga K "Ratio")) "__setattr__" = some (some (.builtin "object.__setattr__")) := of_decide_eq_true (Hk.get hke1 37 rfl)
  have wc0 : PySem.W.findIn K (.ref (He.ga K "Ratio")) "__class__" = some (some (.builtin "object.__class__")) := of_decide_eq_true (Hk.get hke1 38 rfl)
  have wm0 : PySem.W.mroIn K (He.ga K "Ratio") (.type "object") = some true := of_decide_eq_true (Hk.get hke1 39 rfl)
  have wn0 : PySem.W.specialIn K (.builtin "object.__class__") "__get__" = some (some (.builtin "getset_descriptor.__get__")) := of_decide_eq_true (Hk.get hke2 0 rfl)
  have wt0 : PySem.W.takesIn K (.builtin "object.__class__") = some true := of_decide_eq_true (Hk.get hke2 1 rfl)
  have na0_0 : PySem.W.findIn K (.ref (He.ga K "Ratio")) "top" = some none := of_decide_eq_true (Hk.get hke2 2 rfl)
  have na0_1 : PySem.W.findIn K (.ref (He.ga K "Ratio")) "bottom" = some none := of_decide_eq_true (Hk.get hke2 3 rfl)
  have u1 : PySem.W.nsIn K mainGlobals "Numbers" = some (some (.ref (He.ga K "Numbers"))) := of_decide_eq_true (Hk.get hke2 4 rfl)
  have pg1 : PySem.W.plainGet K (He.ga K "Numbers") Str.empty = true := of_decide_eq_true (Hk.get hke2 5 rfl)
  have hd1 : PySem.W.hasDictIn K (He.ga K "Numbers") = true := of_decide_eq_true (Hk.get hke2 6 rfl)
  have po1 : PySem.W.plainOver K (He.ga K "Numbers") = true := of_decide_eq_true (Hk.get hke2 7 rfl)
  have sa1 : PySem.W.findIn K (.ref (He.ga K "Numbers")) "__setattr__" = some (some (.builtin "object.__setattr__")) := of_decide_eq_true (Hk.get hke2 8 rfl)
  have wc1 : PySem.W.findIn K (.ref (He.ga K "Numbers")) "__class__" = some (some (.builtin "object.__class__")) := of_decide_eq_true (Hk.get hke2 9 rfl)
  have wm1 : PySem.W.mroIn K (He.ga K "Numbers") (.type "object") = some true := of_decide_eq_true (Hk.get hke2 10 rfl)
  have wn1 : PySem.W.specialIn K (.builtin "object.__class__") "__get__" = some (some (.builtin "getset_descriptor.__get__")) := of_decide_eq_true (Hk.get hke2 11 rfl)
  have wt1 : PySem.W.takesIn K (.builtin "object.__class__") = some true := of_decide_eq_true (Hk.get hke2 12 rfl)
  have na1_0 : PySem.W.findIn K (.ref (He.ga K "Numbers")) "none" = some none := of_decide_eq_true (Hk.get hke2 13 rfl)
  have na1_1 : PySem.W.findIn K (.ref (He.ga K "Numbers")) "one" = some none := of_decide_eq_true (Hk.get hke2 14 rfl)
  have u2 : PySem.W.nsIn K mainGlobals "Lengths" = some (some (.ref (He.ga K "Lengths"))) := of_decide_eq_true (Hk.get hke2 15 rfl)
  have pg2 : PySem.W.plainGet K (He.ga K "Lengths") Str.empty = true := of_decide_eq_true (Hk.get hke2 16 rfl)
  have hd2 : PySem.W.hasDictIn K (He.ga K "Lengths") = true := of_decide_eq_true (Hk.get hke2 17 rfl)
  have po2 : PySem.W.plainOver K (He.ga K "Lengths") = true := of_decide_eq_true (Hk.get hke2 18 rfl)
  have sa2 : PySem.W.findIn K (.ref (He.ga K "Lengths")) "__setattr__" = some (some (.builtin "object.__setattr__")) := of_decide_eq_true (Hk.get hke2 19 rfl)
  have wc2 : PySem.W.findIn K (.ref (He.ga K "Lengths")) "__class__" = some (some (.builtin "object.__class__")) := of_decide_eq_true (Hk.get hke2 20 rfl)
  have wm2 : PySem.W.mroIn K (He.ga K "Lengths") (.type "object") = some true := of_decide_eq_true (Hk.get hke2 21 rfl)
  have wn2 : PySem.W.specialIn K (.builtin "object.__class__") "__get__" = some (some (.builtin "getset_descriptor.__get__")) := of_decide_eq_true (Hk.get hke2 22 rfl)
  have wt2 : PySem.W.takesIn K (.builtin "object.__class__") = some true := of_decide_eq_true (Hk.get hke2 23 rfl)
  have na2_0 : PySem.W.findIn K (.ref (He.ga K "Lengths")) "none" = some none := of_decide_eq_true (Hk.get hke2 24 rfl)
  have na2_1 : PySem.W.findIn K (.ref (He.ga K "Lengths")) "one" = some none := of_decide_eq_true (Hk.get hke2 25 rfl)
  have u3 : PySem.W.nsIn K mainGlobals "Reckoning" = some (some (.ref (He.ga K "Reckoning"))) := of_decide_eq_true (Hk.get hke2 26 rfl)
  have pg3 : PySem.W.plainGet K (He.ga K "Reckoning") Str.empty = true := of_decide_eq_true (Hk.get hke2 27 rfl)
  have hd3 : PySem.W.hasDictIn K (He.ga K "Reckoning") = true := of_decide_eq_true (Hk.get hke2 28 rfl)
  have po3 : PySem.W.plainOver K (He.ga K "Reckoning") = true := of_decide_eq_true (Hk.get hke2 29 rfl)
  have sa3 : PySem.W.findIn K (.ref (He.ga K "Reckoning")) "__setattr__" = some (some (.builtin "object.__setattr__")) := of_decide_eq_true (Hk.get hke2 30 rfl)
  have wc3 : PySem.W.findIn K (.ref (He.ga K "Reckoning")) "__class__" = some (some (.builtin "object.__class__")) := of_decide_eq_true (Hk.get hke2 31 rfl)
  have wm3 : PySem.W.mroIn K (He.ga K "Reckoning") (.type "object") = some true := of_decide_eq_true (Hk.get hke2 32 rfl)
  have wn3 : PySem.W.specialIn K (.builtin "object.__class__") "__get__" = some (some (.builtin "getset_descriptor.__get__")) := of_decide_eq_true (Hk.get hke2 33 rfl)
  have wt3 : PySem.W.takesIn K (.builtin "object.__class__") = some true := of_decide_eq_true (Hk.get hke2 34 rfl)
  have na3_0 : PySem.W.findIn K (.ref (He.ga K "Reckoning")) "joins" = some none := of_decide_eq_true (Hk.get hke2 35 rfl)
  have na3_1 : PySem.W.findIn K (.ref (He.ga K "Reckoning")) "products" = some none := of_decide_eq_true (Hk.get hke2 36 rfl)
  have na3_2 : PySem.W.findIn K (.ref (He.ga K "Reckoning")) "none" = some none := of_decide_eq_true (Hk.get hke2 37 rfl)
  have na3_3 : PySem.W.findIn K (.ref (He.ga K "Reckoning")) "one" = some none := of_decide_eq_true (Hk.get hke2 38 rfl)
  have na3_4 : PySem.W.findIn K (.ref (He.ga K "Reckoning")) "meets" = some none := of_decide_eq_true (Hk.get hke2 39 rfl)
  have na3_5 : PySem.W.findIn K (.ref (He.ga K "Reckoning")) "lefts" = some none := of_decide_eq_true (Hk.get hke3 0 rfl)
  have na3_6 : PySem.W.findIn K (.ref (He.ga K "Reckoning")) "rights" = some none := of_decide_eq_true (Hk.get hke3 1 rfl)
  have u4 : PySem.W.nsIn K mainGlobals "Tongues" = some (some (.ref (He.ga K "Tongues"))) := of_decide_eq_true (Hk.get hke3 2 rfl)
  have pg4 : PySem.W.plainGet K (He.ga K "Tongues") Str.empty = true := of_decide_eq_true (Hk.get hke3 3 rfl)
  have hd4 : PySem.W.hasDictIn K (He.ga K "Tongues") = true := of_decide_eq_true (Hk.get hke3 4 rfl)
  have po4 : PySem.W.plainOver K (He.ga K "Tongues") = true := of_decide_eq_true (Hk.get hke3 5 rfl)
  have sa4 : PySem.W.findIn K (.ref (He.ga K "Tongues")) "__setattr__" = some (some (.builtin "object.__setattr__")) := of_decide_eq_true (Hk.get hke3 6 rfl)
  have wc4 : PySem.W.findIn K (.ref (He.ga K "Tongues")) "__class__" = some (some (.builtin "object.__class__")) := of_decide_eq_true (Hk.get hke3 7 rfl)
  have wm4 : PySem.W.mroIn K (He.ga K "Tongues") (.type "object") = some true := of_decide_eq_true (Hk.get hke3 8 rfl)
  have wn4 : PySem.W.specialIn K (.builtin "object.__class__") "__get__" = some (some (.builtin "getset_descriptor.__get__")) := of_decide_eq_true (Hk.get hke3 9 rfl)
  have wt4 : PySem.W.takesIn K (.builtin "object.__class__") = some true := of_decide_eq_true (Hk.get hke3 10 rfl)
  have na4_0 : PySem.W.findIn K (.ref (He.ga K "Tongues")) "signs" = some none := of_decide_eq_true (Hk.get hke3 11 rfl)
  have na4_1 : PySem.W.findIn K (.ref (He.ga K "Tongues")) "none" = some none := of_decide_eq_true (Hk.get hke3 12 rfl)
  have na4_2 : PySem.W.findIn K (.ref (He.ga K "Tongues")) "one" = some none := of_decide_eq_true (Hk.get hke3 13 rfl)
  have u5 : PySem.W.nsIn K mainGlobals "Web" = some (some (.ref (He.ga K "Web"))) := of_decide_eq_true (Hk.get hke3 14 rfl)
  have pg5 : PySem.W.plainGet K (He.ga K "Web") Str.empty = true := of_decide_eq_true (Hk.get hke3 15 rfl)
  have hd5 : PySem.W.hasDictIn K (He.ga K "Web") = true := of_decide_eq_true (Hk.get hke3 16 rfl)
  have po5 : PySem.W.plainOver K (He.ga K "Web") = true := of_decide_eq_true (Hk.get hke3 17 rfl)
  have sa5 : PySem.W.findIn K (.ref (He.ga K "Web")) "__setattr__" = some (some (.builtin "object.__setattr__")) := of_decide_eq_true (Hk.get hke3 18 rfl)
  have wc5 : PySem.W.findIn K (.ref (He.ga K "Web")) "__class__" = some (some (.builtin "object.__class__")) := of_decide_eq_true (Hk.get hke3 19 rfl)
  have wm5 : PySem.W.mroIn K (He.ga K "Web") (.type "object") = some true := of_decide_eq_true (Hk.get hke3 20 rfl)
  have wn5 : PySem.W.specialIn K (.builtin "object.__class__") "__get__" = some (some (.builtin "getset_descriptor.__get__")) := of_decide_eq_true (Hk.get hke3 21 rfl)
  have wt5 : PySem.W.takesIn K (.builtin "object.__class__") = some true := of_decide_eq_true (Hk.get hke3 22 rfl)
  have na5_0 : PySem.W.findIn K (.ref (He.ga K "Web")) "reckoning" = some none := of_decide_eq_true (Hk.get hke3 23 rfl)
  have na5_1 : PySem.W.findIn K (.ref (He.ga K "Web")) "places" = some none := of_decide_eq_true (Hk.get hke3 24 rfl)
  have na5_2 : PySem.W.findIn K (.ref (He.ga K "Web")) "kept" = some none := of_decide_eq_true (Hk.get hke3 25 rfl)
  have na5_3 : PySem.W.findIn K (.ref (He.ga K "Web")) "roads" = some none := of_decide_eq_true (Hk.get hke3 26 rfl)
  have fx0_0 : PySem.W.mroIn K (He.ga K "Ratio") (.type "int") = some false := of_decide_eq_true (Hk.get hke3 27 rfl)
  have fx0_1 : PySem.W.mroIn K (He.ga K "Ratio") (.type "bool") = some false := of_decide_eq_true (Hk.get hke3 28 rfl)
  have fx0_2 : PySem.W.isClsIn K (He.ga K "Ratio") = true := of_decide_eq_true (Hk.get hke3 29 rfl)
  have fx0_3 : PySem.W.typeIn K (.ref (He.ga K "Ratio")) = some (.type "type") := of_decide_eq_true (Hk.get hke3 30 rfl)
  have fx0_4 : PySem.W.subIn K (.ref (He.ga K "Ratio")) (.ref (He.ga K "Numbers")) = some false := of_decide_eq_true (Hk.get hke3 31 rfl)
  have fx0_5 : PySem.W.subIn K (.ref (He.ga K "Ratio")) (.ref (He.ga K "Ratio")) = some true := of_decide_eq_true (Hk.get hke3 32 rfl)
  have fx0_6 : PySem.W.findIn K (.ref (He.ga K "Ratio")) "__ne__" = some (some (.builtin "object.__ne__")) := of_decide_eq_true (Hk.get hke3 33 rfl)
  have fx0_7 : PySem.W.selfFirst K (He.ga K "Ratio") = true := of_decide_eq_true (Hk.get hke3 34 rfl)
  have fx1_0 : PySem.W.mroIn K (He.ga K "Numbers") (.type "int") = some false := of_decide_eq_true (Hk.get hke3 35 rfl)
  have fx1_1 : PySem.W.mroIn K (He.ga K "Numbers") (.type "bool") = some false := of_decide_eq_true (Hk.get hke3 36 rfl)
  have fx1_2 : PySem.W.isClsIn K (He.ga K "Numbers") = true := of_decide_eq_true (Hk.get hke3 37 rfl)
  have fx1_3 : PySem.W.typeIn K (.ref (He.ga K "Numbers")) = some (.type "type") := of_decide_eq_true (Hk.get hke3 38 rfl)
  have fx1_4 : PySem.W.subIn K (.ref (He.ga K "Numbers")) (.ref (He.ga K "Ratio")) = some false := of_decide_eq_true (Hk.get hke3 39 rfl)
  have fx1_5 : PySem.W.subIn K (.ref (He.ga K "Numbers")) (.ref (He.ga K "Reckoning")) = some false := of_decide_eq_true (Hk.get hke4 0 rfl)
  have fx1_6 : PySem.W.subIn K (.ref (He.ga K "Numbers")) (.ref (He.ga K "Lengths")) = some false := of_decide_eq_true (Hk.get hke4 1 rfl)
  have fx1_7 : PySem.W.subIn K (.ref (He.ga K "Numbers")) (.ref (He.ga K "Tongues")) = some false := of_decide_eq_true (Hk.get hke4 2 rfl)
  have fx1_8 : PySem.W.subIn K (.ref (He.ga K "Numbers")) (.ref (He.ga K "Numbers")) = some true := of_decide_eq_true (Hk.get hke4 3 rfl)
  have fx1_9 : PySem.W.findIn K (.ref (He.ga K "Numbers")) "__ne__" = some (some (.builtin "object.__ne__")) := of_decide_eq_true (Hk.get hke4 4 rfl)
  have fx1_10 : PySem.W.mroIn K (He.ga K "Numbers") (.type "NoneType") = some false := of_decide_eq_true (Hk.get hke4 5 rfl)
  have fx1_11 : PySem.W.mroIn K (He.ga K "Numbers") (.type "str") = some false := of_decide_eq_true (Hk.get hke4 6 rfl)
  have fx1_12 : PySem.W.mroIn K (He.ga K "Numbers") (.type "list") = some false := of_decide_eq_true (Hk.get hke4 7 rfl)
  have fx2_0 : PySem.W.mroIn K (He.ga K "Lengths") (.type "int") = some false := of_decide_eq_true (Hk.get hke4 8 rfl)
  have fx2_1 : PySem.W.mroIn K (He.ga K "Lengths") (.type "bool") = some false := of_decide_eq_true (Hk.get hke4 9 rfl)
  have fx2_2 : PySem.W.isClsIn K (He.ga K "Lengths") = true := of_decide_eq_true (Hk.get hke4 10 rfl)
  have fx2_3 : PySem.W.typeIn K (.ref (He.ga K "Lengths")) = some (.type "type") := of_decide_eq_true (Hk.get hke4 11 rfl)
  have fx2_4 : PySem.W.subIn K (.ref (He.ga K "Lengths")) (.ref (He.ga K "Ratio")) = some false := of_decide_eq_true (Hk.get hke4 12 rfl)
  have fx2_5 : PySem.W.subIn K (.ref (He.ga K "Lengths")) (.ref (He.ga K "Numbers")) = some false := of_decide_eq_true (Hk.get hke4 13 rfl)
  have fx2_6 : PySem.W.subIn K (.ref (He.ga K "Lengths")) (.ref (He.ga K "Reckoning")) = some false := of_decide_eq_true (Hk.get hke4 14 rfl)
  have fx2_7 : PySem.W.subIn K (.ref (He.ga K "Lengths")) (.ref (He.ga K "Tongues")) = some false := of_decide_eq_true (Hk.get hke4 15 rfl)
  have fx2_8 : PySem.W.subIn K (.ref (He.ga K "Lengths")) (.ref (He.ga K "Lengths")) = some true := of_decide_eq_true (Hk.get hke4 16 rfl)
  have fx2_9 : PySem.W.findIn K (.ref (He.ga K "Lengths")) "__ne__" = some (some (.builtin "object.__ne__")) := of_decide_eq_true (Hk.get hke4 17 rfl)
  have fx3_0 : PySem.W.mroIn K (He.ga K "Reckoning") (.type "int") = some false := of_decide_eq_true (Hk.get hke4 18 rfl)
  have fx3_1 : PySem.W.mroIn K (He.ga K "Reckoning") (.type "bool") = some false := of_decide_eq_true (Hk.get hke4 19 rfl)
  have fx3_2 : PySem.W.isClsIn K (He.ga K "Reckoning") = true := of_decide_eq_true (Hk.get hke4 20 rfl)
  have fx3_3 : PySem.W.typeIn K (.ref (He.ga K "Reckoning")) = some (.type "type") := of_decide_eq_true (Hk.get hke4 21 rfl)
  have fx3_4 : PySem.W.subIn K (.ref (He.ga K "Reckoning")) (.ref (He.ga K "Ratio")) = some false := of_decide_eq_true (Hk.get hke4 22 rfl)
  have fx3_5 : PySem.W.subIn K (.ref (He.ga K "Reckoning")) (.ref (He.ga K "Numbers")) = some false := of_decide_eq_true (Hk.get hke4 23 rfl)
  have fx3_6 : PySem.W.subIn K (.ref (He.ga K "Reckoning")) (.ref (He.ga K "Lengths")) = some false := of_decide_eq_true (Hk.get hke4 24 rfl)
  have fx3_7 : PySem.W.subIn K (.ref (He.ga K "Reckoning")) (.ref (He.ga K "Tongues")) = some false := of_decide_eq_true (Hk.get hke4 25 rfl)
  have fx3_8 : PySem.W.subIn K (.ref (He.ga K "Reckoning")) (.ref (He.ga K "Reckoning")) = some true := of_decide_eq_true (Hk.get hke4 26 rfl)
  have fx3_9 : PySem.W.findIn K (.ref (He.ga K "Reckoning")) "__ne__" = some (some (.builtin "object.__ne__")) := of_decide_eq_true (Hk.get hke4 27 rfl)
  have fx4_0 : PySem.W.mroIn K (He.ga K "Tongues") (.type "int") = some false := of_decide_eq_true (Hk.get hke4 28 rfl)
  have fx4_1 : PySem.W.mroIn K (He.ga K "Tongues") (.type "bool") = some false := of_decide_eq_true (Hk.get hke4 29 rfl)
  have fx4_2 : PySem.W.isClsIn K (He.ga K "Tongues") = true := of_decide_eq_true (Hk.get hke4 30 rfl)
  have fx4_3 : PySem.W.typeIn K (.ref (He.ga K "Tongues")) = some (.type "type") := of_decide_eq_true (Hk.get hke4 31 rfl)
  have fx4_4 : PySem.W.subIn K (.ref (He.ga K "Tongues")) (.ref (He.ga K "Tongues")) = some true := of_decide_eq_true (Hk.get hke4 32 rfl)
  have tI : PySem.W.typeIn K (.ref (He.fAd K ("BadNumber", some "__init__"))) = some (.type "function") := of_decide_eq_true (Hk.get hke4 33 rfl)
  have xn : PySem.W.specialIn K (.builtin "object.__class__") "__get__" = some (some (.builtin "getset_descriptor.__get__")) := of_decide_eq_true (Hk.get hke4 34 rfl)
  have xo : PySem.W.takesIn K (.builtin "object.__class__") = some true := of_decide_eq_true (Hk.get hke4 35 rfl)
  have ue0 : PySem.W.nsIn K mainGlobals "BadNumber" = some (some (.ref (He.ga K "BadNumber"))) := of_decide_eq_true (Hk.get hke4 36 rfl)
  have xl0 := Hk.oex_of (Hk.get hke4 37 rfl)
  have xa0 : PySem.W.findIn K (.ref (He.ga K "BadNumber")) "__setattr__" = some (some (.builtin "object.__setattr__")) := of_decide_eq_true (Hk.get hke4 38 rfl)
  have xb0 : PySem.W.subIn K (.ref (He.ga K "BadNumber")) (.type "BaseException") = some true := of_decide_eq_true (Hk.get hke4 39 rfl)
  have xc0 : PySem.W.typeIn K (.ref (He.ga K "BadNumber")) = some (.type "type") := of_decide_eq_true (Hk.get hke5 0 rfl)
  have xd0 : PySem.W.keepIn K (.ref (He.ga K "BadNumber")) = true := of_decide_eq_true (Hk.get hke5 1 rfl)
  have xe0 : PySem.W.findIn K (.ref (He.ga K "BadNumber")) "__init__" = some (some (.ref (He.fAd K ("BadNumber", some "__init__")))) := of_decide_eq_true (Hk.get hke5 2 rfl)
  have xf0 : PySem.W.findIn K (.ref (He.ga K "BadNumber")) "value" = some none := of_decide_eq_true (Hk.get hke5 3 rfl)
  have xg0 : PySem.W.findIn K (.ref (He.ga K "BadNumber")) "__getattribute__" = some (some (.builtin "BaseException.__getattribute__")) := of_decide_eq_true (Hk.get hke5 4 rfl)
  have xh0 : PySem.W.findIn K (.ref (He.ga K "BadNumber")) "__getattr__" = some none := of_decide_eq_true (Hk.get hke5 5 rfl)
  have xi0 : PySem.W.hasDictIn K (He.ga K "BadNumber") = true := of_decide_eq_true (Hk.get hke5 6 rfl)
  have xj0 : PySem.W.findIn K (.ref (He.ga K "BadNumber")) "__class__" = some (some (.builtin "object.__class__")) := of_decide_eq_true (Hk.get hke5 7 rfl)
  have xm0 : PySem.W.mroIn K (He.ga K "BadNumber") (.type "object") = some true := of_decide_eq_true (Hk.get hke5 8 rfl)
  have xp0 : PySem.W.isClsIn K (He.ga K "BadNumber") = true := of_decide_eq_true (Hk.get hke5 9 rfl)
  have xs0 : PySem.W.subIn K (.ref (He.ga K "BadNumber")) (.ref (He.ga K "BadNumber")) = some true := of_decide_eq_true (Hk.get hke5 10 rfl)
  have ue1 : PySem.W.nsIn K mainGlobals "BadReckoning" = some (some (.ref (He.ga K "BadReckoning"))) := of_decide_eq_true (Hk.get hke5 11 rfl)
  have xl1 := Hk.oex_of (Hk.get hke5 12 rfl)
  have xa1 : PySem.W.findIn K (.ref (He.ga K "BadReckoning")) "__setattr__" = some (some (.builtin "object.__setattr__")) := of_decide_eq_true (Hk.get hke5 13 rfl)
  have xb1 : PySem.W.subIn K (.ref (He.ga K "BadReckoning")) (.type "BaseException") = some true := of_decide_eq_true (Hk.get hke5 14 rfl)
  have xc1 : PySem.W.typeIn K (.ref (He.ga K "BadReckoning")) = some (.type "type") := of_decide_eq_true (Hk.get hke5 15 rfl)
  have xd1 : PySem.W.keepIn K (.ref (He.ga K "BadReckoning")) = true := of_decide_eq_true (Hk.get hke5 16 rfl)
  have xe1 : PySem.W.findIn K (.ref (He.ga K "BadReckoning")) "__init__" = some (some (.ref (He.fAd K ("BadNumber", some "__init__")))) := of_decide_eq_true (Hk.get hke5 17 rfl)
  have xf1 : PySem.W.findIn K (.ref (He.ga K "BadReckoning")) "value" = some none := of_decide_eq_true (Hk.get hke5 18 rfl)
  have xg1 : PySem.W.findIn K (.ref (He.ga K "BadReckoning")) "__getattribute__" = some (some (.builtin "BaseException.__getattribute__")) := of_decide_eq_true (Hk.get hke5 19 rfl)
  have xh1 : PySem.W.findIn K (.ref (He.ga K "BadReckoning")) "__getattr__" = some none := of_decide_eq_true (Hk.get hke5 20 rfl)
  have xi1 : PySem.W.hasDictIn K (He.ga K "BadReckoning") = true := of_decide_eq_true (Hk.get hke5 21 rfl)
  have xj1 : PySem.W.findIn K (.ref (He.ga K "BadReckoning")) "__class__" = some (some (.builtin "object.__class__")) := of_decide_eq_true (Hk.get hke5 22 rfl)
  have xm1 : PySem.W.mroIn K (He.ga K "BadReckoning") (.type "object") = some true := of_decide_eq_true (Hk.get hke5 23 rfl)
  have xp1 : PySem.W.isClsIn K (He.ga K "BadReckoning") = true := of_decide_eq_true (Hk.get hke5 24 rfl)
  have xs1 : PySem.W.subIn K (.ref (He.ga K "BadReckoning")) (.ref (He.ga K "BadReckoning")) = some true := of_decide_eq_true (Hk.get hke5 25 rfl)
  have ue2 : PySem.W.nsIn K mainGlobals "BadWorth" = some (some (.ref (He.ga K "BadWorth"))) := of_decide_eq_true (Hk.get hke5 26 rfl)
  have xl2 := Hk.oex_of (Hk.get hke5 27 rfl)
  have xa2 : PySem.W.findIn K (.ref (He.ga K "BadWorth")) "__setattr__" = some (some (.builtin "object.__setattr__")) := of_decide_eq_true (Hk.get hke5 28 rfl)
  have xb2 : PySem.W.subIn K (.ref (He.ga K "BadWorth")) (.type "BaseException") = some true := of_decide_eq_true (Hk.get hke5 29 rfl)
  have xc2 : PySem.W.typeIn K (.ref (He.ga K "BadWorth")) = some (.type "type") := of_decide_eq_true (Hk.get hke5 30 rfl)
  have xd2 : PySem.W.keepIn K (.ref (He.ga K "BadWorth")) = true := of_decide_eq_true (Hk.get hke5 31 rfl)
  have xe2 : PySem.W.findIn K (.ref (He.ga K "BadWorth")) "__init__" = some (some (.ref (He.fAd K ("BadNumber", some "__init__")))) := of_decide_eq_true (Hk.get hke5 32 rfl)
  have xf2 : PySem.W.findIn K (.ref (He.ga K "BadWorth")) "value" = some none := of_decide_eq_true (Hk.get hke5 33 rfl)
  have xg2 : PySem.W.findIn K (.ref (He.ga K "BadWorth")) "__getattribute__" = some (some (.builtin "BaseException.__getattribute__")) := of_decide_eq_true (Hk.get hke5 34 rfl)
  have xh2 : PySem.W.findIn K (.ref (He.ga K "BadWorth")) "__getattr__" = some none := of_decide_eq_true (Hk.get hke5 35 rfl)
  have xi2 : PySem.W.hasDictIn K (He.ga K "BadWorth") = true := of_decide_eq_true (Hk.get hke5 36 rfl)
  have xj2 : PySem.W.findIn K (.ref (He.ga K "BadWorth")) "__class__" = some (some (.builtin "object.__class__")) := of_decide_eq_true (Hk.get hke5 37 rfl)
  have xm2 : PySem.W.mroIn K (He.ga K "BadWorth") (.type "object") = some true := of_decide_eq_true (Hk.get hke5 38 rfl)
  have xp2 : PySem.W.isClsIn K (He.ga K "BadWorth") = true := of_decide_eq_true (Hk.get hke5 39 rfl)
  have xs2 : PySem.W.subIn K (.ref (He.ga K "BadWorth")) (.ref (He.ga K "BadWorth")) = some true := of_decide_eq_true (Hk.get hke6 0 rfl)
  have ue3 : PySem.W.nsIn K mainGlobals "BadWeb" = some (some (.ref (He.ga K "BadWeb"))) := of_decide_eq_true (Hk.get hke6 1 rfl)
  have xl3 := Hk.oex_of (Hk.get hke6 2 rfl)
  have xa3 : PySem.W.findIn K (.ref (He.ga K "BadWeb")) "__setattr__" = some (some (.builtin "object.__setattr__")) := of_decide_eq_true (Hk.get hke6 3 rfl)
  have xb3 : PySem.W.subIn K (.ref (He.ga K "BadWeb")) (.type "BaseException") = some true := of_decide_eq_true (Hk.get hke6 4 rfl)
  have xc3 : PySem.W.typeIn K (.ref (He.ga K "BadWeb")) = some (.type "type") := of_decide_eq_true (Hk.get hke6 5 rfl)
  have xd3 : PySem.W.keepIn K (.ref (He.ga K "BadWeb")) = true := of_decide_eq_true (Hk.get hke6 6 rfl)
  have xe3 : PySem.W.findIn K (.ref (He.ga K "BadWeb")) "__init__" = some (some (.ref (He.fAd K ("BadNumber", some "__init__")))) := of_decide_eq_true (Hk.get hke6 7 rfl)
  have xf3 : PySem.W.findIn K (.ref (He.ga K "BadWeb")) "value" = some none := of_decide_eq_true (Hk.get hke6 8 rfl)
  have xg3 : PySem.W.findIn K (.ref (He.ga K "BadWeb")) "__getattribute__" = some (some (.builtin "BaseException.__getattribute__")) := of_decide_eq_true (Hk.get hke6 9 rfl)
  have xh3 : PySem.W.findIn K (.ref (He.ga K "BadWeb")) "__getattr__" = some none := of_decide_eq_true (Hk.get hke6 10 rfl)
  have xi3 : PySem.W.hasDictIn K (He.ga K "BadWeb") = true := of_decide_eq_true (Hk.get hke6 11 rfl)
  have xj3 : PySem.W.findIn K (.ref (He.ga K "BadWeb")) "__class__" = some (some (.builtin "object.__class__")) := of_decide_eq_true (Hk.get hke6 12 rfl)
  have xm3 : PySem.W.mroIn K (He.ga K "BadWeb") (.type "object") = some true := of_decide_eq_true (Hk.get hke6 13 rfl)
  have xp3 : PySem.W.isClsIn K (He.ga K "BadWeb") = true := of_decide_eq_true (Hk.get hke6 14 rfl)
  have xs3 : PySem.W.subIn K (.ref (He.ga K "BadWeb")) (.ref (He.ga K "BadWeb")) = some true := of_decide_eq_true (Hk.get hke6 15 rfl)
  have ue4 : PySem.W.nsIn K mainGlobals "BadName" = some (some (.ref (He.ga K "BadName"))) := of_decide_eq_true (Hk.get hke6 16 rfl)
  have xl4 := Hk.oex_of (Hk.get hke6 17 rfl)
  have xa4 : PySem.W.findIn K (.ref (He.ga K "BadName")) "__setattr__" = some (some (.builtin "object.__setattr__")) := of_decide_eq_true (Hk.get hke6 18 rfl)
  have xb4 : PySem.W.subIn K (.ref (He.ga K "BadName")) (.type "BaseException") = some true := of_decide_eq_true (Hk.get hke6 19 rfl)
  have xc4 : PySem.W.typeIn K (.ref (He.ga K "BadName")) = some (.type "type") := of_decide_eq_true (Hk.get hke6 20 rfl)
  have xd4 : PySem.W.keepIn K (.ref (He.ga K "BadName")) = true := of_decide_eq_true (Hk.get hke6 21 rfl)
  have xe4 : PySem.W.findIn K (.ref (He.ga K "BadName")) "__init__" = some (some (.ref (He.fAd K ("BadNumber", some "__init__")))) := of_decide_eq_true (Hk.get hke6 22 rfl)
  have xf4 : PySem.W.findIn K (.ref (He.ga K "BadName")) "value" = some none := of_decide_eq_true (Hk.get hke6 23 rfl)
  have xg4 : PySem.W.findIn K (.ref (He.ga K "BadName")) "__getattribute__" = some (some (.builtin "BaseException.__getattribute__")) := of_decide_eq_true (Hk.get hke6 24 rfl)
  have xh4 : PySem.W.findIn K (.ref (He.ga K "BadName")) "__getattr__" = some none := of_decide_eq_true (Hk.get hke6 25 rfl)
  have xi4 : PySem.W.hasDictIn K (He.ga K "BadName") = true := of_decide_eq_true (Hk.get hke6 26 rfl)
  have xj4 : PySem.W.findIn K (.ref (He.ga K "BadName")) "__class__" = some (some (.builtin "object.__class__")) := of_decide_eq_true (Hk.get hke6 27 rfl)
  have xm4 : PySem.W.mroIn K (He.ga K "BadName") (.type "object") = some true := of_decide_eq_true (Hk.get hke6 28 rfl)
  have xp4 : PySem.W.isClsIn K (He.ga K "BadName") = true := of_decide_eq_true (Hk.get hke6 29 rfl)
  have xs4 : PySem.W.subIn K (.ref (He.ga K "BadName")) (.ref (He.ga K "BadName")) = some true := of_decide_eq_true (Hk.get hke6 30 rfl)
  have ue5 : PySem.W.nsIn K mainGlobals "BadLetter" = some (some (.ref (He.ga K "BadLetter"))) := of_decide_eq_true (Hk.get hke6 31 rfl)
  have xl5 := Hk.oex_of (Hk.get hke6 32 rfl)
  have xa5 : PySem.W.findIn K (.ref (He.ga K "BadLetter")) "__setattr__" = some (some (.builtin "object.__setattr__")) := of_decide_eq_true (Hk.get hke6 33 rfl)
  have xb5 : PySem.W.subIn K (.ref (He.ga K "BadLetter")) (.type "BaseException") = some true := of_decide_eq_true (Hk.get hke6 34 rfl)
  have xc5 : PySem.W.typeIn K (.ref (He.ga K "BadLetter")) = some (.type "type") := of_decide_eq_true (Hk.get hke6 35 rfl)
  have xd5 : PySem.W.keepIn K (.ref (He.ga K "BadLetter")) = true := of_decide_eq_true (Hk.get hke6 36 rfl)
  have xe5 : PySem.W.findIn K (.ref (He.ga K "BadLetter")) "__init__" = some (some (.ref (He.fAd K ("BadNumber", some "__init__")))) := of_decide_eq_true (Hk.get hke6 37 rfl)
  have xf5 : PySem.W.findIn K (.ref (He.ga K "BadLetter")) "value" = some none := of_decide_eq_true (Hk.get hke6 38 rfl)
  have xg5 : PySem.W.findIn K (.ref (He.ga K "BadLetter")) "__getattribute__" = some (some (.builtin "BaseException.__getattribute__")) := of_decide_eq_true (Hk.get hke6 39 rfl)
  have xh5 : PySem.W.findIn K (.ref (He.ga K "BadLetter")) "__getattr__" = some none := of_decide_eq_true (Hk.get hke7 0 rfl)
  have xi5 : PySem.W.hasDictIn K (He.ga K "BadLetter") = true := of_decide_eq_true (Hk.get hke7 1 rfl)
  have xj5 : PySem.W.findIn K (.ref (He.ga K "BadLetter")) "__class__" = some (some (.builtin "object.__class__")) := of_decide_eq_true (Hk.get hke7 2 rfl)
  have xm5 : PySem.W.mroIn K (He.ga K "BadLetter") (.type "object") = some true := of_decide_eq_true (Hk.get hke7 3 rfl)
  have xp5 : PySem.W.isClsIn K (He.ga K "BadLetter") = true := of_decide_eq_true (Hk.get hke7 4 rfl)
  have xs5 : PySem.W.subIn K (.ref (He.ga K "BadLetter")) (.ref (He.ga K "BadLetter")) = some true := of_decide_eq_true (Hk.get hke7 5 rfl)
  have ue6 : PySem.W.nsIn K mainGlobals "WayError" = some (some (.ref (He.ga K "WayError"))) := of_decide_eq_true (Hk.get hke7 6 rfl)
  have xl6 := Hk.oex_of (Hk.get hke7 7 rfl)
  have xa6 : PySem.W.findIn K (.ref (He.ga K "WayError")) "__setattr__" = some (some (.builtin "object.__setattr__")) := of_decide_eq_true (Hk.get hke7 8 rfl)
  have xb6 : PySem.W.subIn K (.ref (He.ga K "WayError")) (.type "BaseException") = some true := of_decide_eq_true (Hk.get hke7 9 rfl)
  have xc6 : PySem.W.typeIn K (.ref (He.ga K "WayError")) = some (.type "type") := of_decide_eq_true (Hk.get hke7 10 rfl)
  have xd6 : PySem.W.keepIn K (.ref (He.ga K "WayError")) = true := of_decide_eq_true (Hk.get hke7 11 rfl)
  have xe6 : PySem.W.findIn K (.ref (He.ga K "WayError")) "__init__" = some (some (.ref (He.fAd K ("BadNumber", some "__init__")))) := of_decide_eq_true (Hk.get hke7 12 rfl)
  have xf6 : PySem.W.findIn K (.ref (He.ga K "WayError")) "value" = some none := of_decide_eq_true (Hk.get hke7 13 rfl)
  have xg6 : PySem.W.findIn K (.ref (He.ga K "WayError")) "__getattribute__" = some (some (.builtin "BaseException.__getattribute__")) := of_decide_eq_true (Hk.get hke7 14 rfl)
  have xh6 : PySem.W.findIn K (.ref (He.ga K "WayError")) "__getattr__" = some none := of_decide_eq_true (Hk.get hke7 15 rfl)
  have xi6 : PySem.W.hasDictIn K (He.ga K "WayError") = true := of_decide_eq_true (Hk.get hke7 16 rfl)
  have xj6 : PySem.W.findIn K (.ref (He.ga K "WayError")) "__class__" = some (some (.builtin "object.__class__")) := of_decide_eq_true (Hk.get hke7 17 rfl)
  have xm6 : PySem.W.mroIn K (He.ga K "WayError") (.type "object") = some true := of_decide_eq_true (Hk.get hke7 18 rfl)
  have xp6 : PySem.W.isClsIn K (He.ga K "WayError") = true := of_decide_eq_true (Hk.get hke7 19 rfl)
  have xs6 : PySem.W.subIn K (.ref (He.ga K "WayError")) (.ref (He.ga K "WayError")) = some true := of_decide_eq_true (Hk.get hke7 20 rfl)
  have sp0 : PySem.W.subIn K (.ref (He.ga K "BadNumber")) (.ref (He.ga K "WayError")) = some true := of_decide_eq_true (Hk.get hke7 21 rfl)
  have sp1 : PySem.W.subIn K (.ref (He.ga K "BadNumber")) (.ref (He.ga K "BadName")) = some false := of_decide_eq_true (Hk.get hke7 22 rfl)
  have sp2 : PySem.W.subIn K (.ref (He.ga K "BadNumber")) (.ref (He.ga K "BadLetter")) = some false := of_decide_eq_true (Hk.get hke7 23 rfl)
  have sp3 : PySem.W.subIn K (.ref (He.ga K "BadReckoning")) (.ref (He.ga K "WayError")) = some true := of_decide_eq_true (Hk.get hke7 24 rfl)
  have sp4 : PySem.W.subIn K (.ref (He.ga K "BadReckoning")) (.ref (He.ga K "BadName")) = some false := of_decide_eq_true (Hk.get hke7 25 rfl)
  have sp5 : PySem.W.subIn K (.ref (He.ga K "BadReckoning")) (.ref (He.ga K "BadLetter")) = some false := of_decide_eq_true (Hk.get hke7 26 rfl)
  have sp6 : PySem.W.subIn K (.ref (He.ga K "BadWorth")) (.ref (He.ga K "WayError")) = some true := of_decide_eq_true (Hk.get hke7 27 rfl)
  have sp7 : PySem.W.subIn K (.ref (He.ga K "BadWorth")) (.ref (He.ga K "BadName")) = some false := of_decide_eq_true (Hk.get hke7 28 rfl)
  have sp8 : PySem.W.subIn K (.ref (He.ga K "BadWorth")) (.ref (He.ga K "BadLetter")) = some false := of_decide_eq_true (Hk.get hke7 29 rfl)
  have sp9 : PySem.W.subIn K (.ref (He.ga K "BadWeb")) (.ref (He.ga K "WayError")) = some true := of_decide_eq_true (Hk.get hke7 30 rfl)
  have sp10 : PySem.W.subIn K (.ref (He.ga K "BadWeb")) (.ref (He.ga K "BadName")) = some false := of_decide_eq_true (Hk.get hke7 31 rfl)
  have sp11 : PySem.W.subIn K (.ref (He.ga K "BadWeb")) (.ref (He.ga K "BadLetter")) = some false := of_decide_eq_true (Hk.get hke7 32 rfl)
  have sp12 : PySem.W.subIn K (.ref (He.ga K "BadName")) (.ref (He.ga K "WayError")) = some true := of_decide_eq_true (Hk.get hke7 33 rfl)
  have sp13 : PySem.W.subIn K (.ref (He.ga K "BadName")) (.ref (He.ga K "BadName")) = some true := of_decide_eq_true (Hk.get hke7 34 rfl)
  have sp14 : PySem.W.subIn K (.ref (He.ga K "BadName")) (.ref (He.ga K "BadLetter")) = some false := of_decide_eq_true (Hk.get hke7 35 rfl)
  have sp15 : PySem.W.subIn K (.ref (He.ga K "BadLetter")) (.ref (He.ga K "WayError")) = some true := of_decide_eq_true (Hk.get hke7 36 rfl)
  have sp16 : PySem.W.subIn K (.ref (He.ga K "BadLetter")) (.ref (He.ga K "BadName")) = some false := of_decide_eq_true (Hk.get hke7 37 rfl)
  have sp17 : PySem.W.subIn K (.ref (He.ga K "BadLetter")) (.ref (He.ga K "BadLetter")) = some true := of_decide_eq_true (Hk.get hke7 38 rfl)
  have k1 : PySem.W.keepIn K (.ref (He.fAd K ("BadNumber", some "__init__"))) = true := of_decide_eq_true (Hk.get hke7 39 rfl)
  have a2 : PySem.W.nsIn K mainGlobals "is_integer" = some (some (.ref (He.fAd K ("is_integer", none)))) := of_decide_eq_true (Hk.get hke8 0 rfl)
  have k2 : PySem.W.keepIn K (.ref (He.fAd K ("is_integer", none))) = true := of_decide_eq_true (Hk.get hke8 1 rfl)
  have a3 : PySem.W.nsIn K mainGlobals "common" = some (some (.ref (He.fAd K ("common", none)))) := of_decide_eq_true (Hk.get hke8 2 rfl)
  have k3 : PySem.W.keepIn K (.ref (He.fAd K ("common", none))) = true := of_decide_eq_true (Hk.get hke8 3 rfl)
  have a4 : PySem.W.findIn K (.ref (He.ga K "Ratio")) "__init__" = some (some (.ref (He.fAd K ("Ratio", some "__init__")))) := of_decide_eq_true (Hk.get hke8 4 rfl)
  have i4 : PySem.W.isFn K (.ref (He.fAd K ("Ratio", some "__init__"))) = true := of_decide_eq_true (Hk.get hke8 5 rfl)
  have mk0 : PySem.W.makesIn K (He.ga K "Ratio") = true := of_decide_eq_true (Hk.get hke8 6 rfl)
  have kc0 : PySem.W.keepIn K (.ref (He.ga K "Ratio")) = true := of_decide_eq_true (Hk.get hke8 7 rfl)
  have k4 : PySem.W.keepIn K (.ref (He.fAd K ("Ratio", some "__init__"))) = true := of_decide_eq_true (Hk.get hke8 8 rfl)
  have a5 : PySem.W.nsIn K mainGlobals "is_number" = some (some (.ref (He.fAd K ("is_number", none)))) := of_decide_eq_true (Hk.get hke8 9 rfl)
  have k5 : PySem.W.keepIn K (.ref (He.fAd K ("is_number", none))) = true := of_decide_eq_true (Hk.get hke8 10 rfl)
  have a6 : PySem.W.findIn K (.ref (He.ga K "Numbers")) "__init__" = some (some (.ref (He.fAd K ("Numbers", some "__init__")))) := of_decide_eq_true (Hk.get hke8 11 rfl)
  have i6 : PySem.W.isFn K (.ref (He.fAd K ("Numbers", some "__init__"))) = true := of_decide_eq_true (Hk.get hke8 12 rfl)
  have mk1 : PySem.W.makesIn K (He.ga K "Numbers") = true := of_decide_eq_true (Hk.get hke8 13 rfl)
  have kc1 : PySem.W.keepIn K (.ref (He.ga K "Numbers")) = true := of_decide_eq_true (Hk.get hke8 14 rfl)
  have k6 : PySem.W.keepIn K (.ref (He.fAd K ("Numbers", some "__init__"))) = true := of_decide_eq_true (Hk.get hke8 15 rfl)
  have a7 : PySem.W.findIn K (.ref (He.ga K "Numbers")) "__eq__" = some (some (.ref (He.fAd K ("Numbers", some "__eq__")))) := of_decide_eq_true (Hk.get hke8 16 rfl)
  have i7 : PySem.W.isFn K (.ref (He.fAd K ("Numbers", some "__eq__"))) = true := of_decide_eq_true (Hk.get hke8 17 rfl)
  have k7 : PySem.W.keepIn K (.ref (He.fAd K ("Numbers", some "__eq__"))) = true := of_decide_eq_true (Hk.get hke8 18 rfl)
  have a8 : PySem.W.findIn K (.ref (He.ga K "Numbers")) "is_worth" = some (some (.ref (He.fAd K ("Numbers", some "is_worth")))) := of_decide_eq_true (Hk.get hke8 19 rfl)
  have i8 : PySem.W.isFn K (.ref (He.fAd K ("Numbers", some "is_worth"))) = true := of_decide_eq_true (Hk.get hke8 20 rfl)
  have k8 : PySem.W.keepIn K (.ref (He.fAd K ("Numbers", some "is_worth"))) = true := of_decide_eq_true (Hk.get hke8 21 rfl)
  have a9 : PySem.W.findIn K (.ref (He.ga K "Lengths")) "__init__" = some (some (.ref (He.fAd K ("Lengths", some "__init__")))) := of_decide_eq_true (Hk.get hke8 22 rfl)
  have i9 : PySem.W.isFn K (.ref (He.fAd K ("Lengths", some "__init__"))) = true := of_decide_eq_true (Hk.get hke8 23 rfl)
  have mk2 : PySem.W.makesIn K (He.ga K "Lengths") = true := of_decide_eq_true (Hk.get hke8 24 rfl)
  have kc2 : PySem.W.keepIn K (.ref (He.ga K "Lengths")) = true := of_decide_eq_true (Hk.get hke8 25 rfl)
  have k9 : PySem.W.keepIn K (.ref (He.fAd K ("Lengths", some "__init__"))) = true := of_decide_eq_true (Hk.get hke8 26 rfl)
  have a10 : PySem.W.findIn K (.ref (He.ga K "Lengths")) "__eq__" = some (some (.ref (He.fAd K ("Lengths", some "__eq__")))) := of_decide_eq_true (Hk.get hke8 27 rfl)
  have i10 : PySem.W.isFn K (.ref (He.fAd K ("Lengths", some "__eq__"))) = true := of_decide_eq_true (Hk.get hke8 28 rfl)
  have k10 : PySem.W.keepIn K (.ref (He.fAd K ("Lengths", some "__eq__"))) = true := of_decide_eq_true (Hk.get hke8 29 rfl)
  have a11 : PySem.W.findIn K (.ref (He.ga K "Lengths")) "is_worth" = some (some (.ref (He.fAd K ("Lengths", some "is_worth")))) := of_decide_eq_true (Hk.get hke8 30 rfl)
  have i11 : PySem.W.isFn K (.ref (He.fAd K ("Lengths", some "is_worth"))) = true := of_decide_eq_true (Hk.get hke8 31 rfl)
  have k11 : PySem.W.keepIn K (.ref (He.fAd K ("Lengths", some "is_worth"))) = true := of_decide_eq_true (Hk.get hke8 32 rfl)
  have a12 : PySem.W.nsIn K mainGlobals "is_square" = some (some (.ref (He.fAd K ("is_square", none)))) := of_decide_eq_true (Hk.get hke8 33 rfl)
  have k12 : PySem.W.keepIn K (.ref (He.fAd K ("is_square", none))) = true := of_decide_eq_true (Hk.get hke8 34 rfl)
  have a13 : PySem.W.nsIn K mainGlobals "check_size" = some (some (.ref (He.fAd K ("check_size", none)))) := of_decide_eq_true (Hk.get hke8 35 rfl)
  have k13 : PySem.W.keepIn K (.ref (He.fAd K ("check_size", none))) = true := of_decide_eq_true (Hk.get hke8 36 rfl)
  have a14 : PySem.W.nsIn K mainGlobals "check_singles" = some (some (.ref (He.fAd K ("check_singles", none)))) := of_decide_eq_true (Hk.get hke8 37 rfl)
  have k14 : PySem.W.keepIn K (.ref (He.fAd K ("check_singles", none))) = true := of_decide_eq_true (Hk.get hke8 38 rfl)
  have a15 : PySem.W.nsIn K mainGlobals "check_swaps" = some (some (.ref (He.fAd K ("check_swaps", none)))) := of_decide_eq_true (Hk.get hke8 39 rfl)
  have k15 : PySem.W.keepIn K (.ref (He.fAd K ("check_swaps", none))) = true := of_decide_eq_true (Hk.get hke9 0 rfl)
  have a16 : PySem.W.nsIn K mainGlobals "check_grouping" = some (some (.ref (He.fAd K ("check_grouping", none)))) := of_decide_eq_true (Hk.get hke9 1 rfl)
  have k16 : PySem.W.keepIn K (.ref (He.fAd K ("check_grouping", none))) = true := of_decide_eq_true (Hk.get hke9 2 rfl)
  have a17 : PySem.W.nsIn K mainGlobals "check_over" = some (some (.ref (He.fAd K ("check_over", none)))) := of_decide_eq_true (Hk.get hke9 3 rfl)
  have k17 : PySem.W.keepIn K (.ref (He.fAd K ("check_over", none))) = true := of_decide_eq_true (Hk.get hke9 4 rfl)
  have a18 : PySem.W.findIn K (.ref (He.ga K "Reckoning")) "joined" = some (some (.ref (He.fAd K ("Reckoning", some "joined")))) := of_decide_eq_true (Hk.get hke9 5 rfl)
  have i18 : PySem.W.isFn K (.ref (He.fAd K ("Reckoning", some "joined"))) = true := of_decide_eq_true (Hk.get hke9 6 rfl)
  have k18 : PySem.W.keepIn K (.ref (He.fAd K ("Reckoning", some "joined"))) = true := of_decide_eq_true (Hk.get hke9 7 rfl)
  have a19 : PySem.W.findIn K (.ref (He.ga K "Reckoning")) "met" = some (some (.ref (He.fAd K ("Reckoning", some "met")))) := of_decide_eq_true (Hk.get hke9 8 rfl)
  have i19 : PySem.W.isFn K (.ref (He.fAd K ("Reckoning", some "met"))) = true := of_decide_eq_true (Hk.get hke9 9 rfl)
  have k19 : PySem.W.keepIn K (.ref (He.fAd K ("Reckoning", some "met"))) = true := of_decide_eq_true (Hk.get hke9 10 rfl)
  have a20 : PySem.W.findIn K (.ref (He.ga K "Reckoning")) "__init__" = some (some (.ref (He.fAd K ("Reckoning", some "__init__")))) := of_decide_eq_true (Hk.get hke9 11 rfl)
  have i20 : PySem.W.isFn K (.ref (He.fAd K ("Reckoning", some "__init__"))) = true := of_decide_eq_true (Hk.get hke9 12 rfl)
  have mk3 : PySem.W.makesIn K (He.ga K "Reckoning") = true := of_decide_eq_true (Hk.get hke9 13 rfl)
  have kc3 : PySem.W.keepIn K (.ref (He.ga K "Reckoning")) = true := of_decide_eq_true (Hk.get hke9 14 rfl)
  have k20 : PySem.W.keepIn K (.ref (He.fAd K ("Reckoning", some "__init__"))) = true := of_decide_eq_true (Hk.get hke9 15 rfl)
  have a21 : PySem.W.findIn K (.ref (He.ga K "Reckoning")) "__eq__" = some (some (.ref (He.fAd K ("Reckoning", some "__eq__")))) := of_decide_eq_true (Hk.get hke9 16 rfl)
  have i21 : PySem.W.isFn K (.ref (He.fAd K ("Reckoning", some "__eq__"))) = true := of_decide_eq_true (Hk.get hke9 17 rfl)
  have k21 : PySem.W.keepIn K (.ref (He.fAd K ("Reckoning", some "__eq__"))) = true := of_decide_eq_true (Hk.get hke9 18 rfl)
  have a22 : PySem.W.findIn K (.ref (He.ga K "Reckoning")) "is_worth" = some (some (.ref (He.fAd K ("Reckoning", some "is_worth")))) := of_decide_eq_true (Hk.get hke9 19 rfl)
  have i22 : PySem.W.isFn K (.ref (He.fAd K ("Reckoning", some "is_worth"))) = true := of_decide_eq_true (Hk.get hke9 20 rfl)
  have k22 : PySem.W.keepIn K (.ref (He.fAd K ("Reckoning", some "is_worth"))) = true := of_decide_eq_true (Hk.get hke9 21 rfl)
  have a23 : PySem.W.findIn K (.ref (He.ga K "Reckoning")) "check" = some (some (.ref (He.fAd K ("Reckoning", some "check")))) := of_decide_eq_true (Hk.get hke9 22 rfl)
  have i23 : PySem.W.isFn K (.ref (He.fAd K ("Reckoning", some "check"))) = true := of_decide_eq_true (Hk.get hke9 23 rfl)
  have k23 : PySem.W.keepIn K (.ref (He.fAd K ("Reckoning", some "check"))) = true := of_decide_eq_true (Hk.get hke9 24 rfl)
  have a24 : PySem.W.findIn K (.ref (He.ga K "Reckoning")) "join" = some (some (.ref (He.fAd K ("Reckoning", some "join")))) := of_decide_eq_true (Hk.get hke9 25 rfl)
  have i24 : PySem.W.isFn K (.ref (He.fAd K ("Reckoning", some "join"))) = true := of_decide_eq_true (Hk.get hke9 26 rfl)
  have k24 : PySem.W.keepIn K (.ref (He.fAd K ("Reckoning", some "join"))) = true := of_decide_eq_true (Hk.get hke9 27 rfl)
  have a25 : PySem.W.findIn K (.ref (He.ga K "Reckoning")) "times" = some (some (.ref (He.fAd K ("Reckoning", some "times")))) := of_decide_eq_true (Hk.get hke9 28 rfl)
  have i25 : PySem.W.isFn K (.ref (He.fAd K ("Reckoning", some "times"))) = true := of_decide_eq_true (Hk.get hke9 29 rfl)
  have k25 : PySem.W.keepIn K (.ref (He.fAd K ("Reckoning", some "times"))) = true := of_decide_eq_true (Hk.get hke9 30 rfl)
  have a26 : PySem.W.findIn K (.ref (He.ga K "Lengths")) "check" = some (some (.ref (He.fAd K ("Lengths", some "check")))) := of_decide_eq_true (Hk.get hke9 31 rfl)
  have i26 : PySem.W.isFn K (.ref (He.fAd K ("Lengths", some "check"))) = true := of_decide_eq_true (Hk.get hke9 32 rfl)
  have k26 : PySem.W.keepIn K (.ref (He.fAd K ("Lengths", some "check"))) = true := of_decide_eq_true (Hk.get hke9 33 rfl)
  have a27 : PySem.W.findIn K (.ref (He.ga K "Lengths")) "join" = some (some (.ref (He.fAd K ("Lengths", some "join")))) := of_decide_eq_true (Hk.get hke9 34 rfl)
  have i27 : PySem.W.isFn K (.ref (He.fAd K ("Lengths", some "join"))) = true := of_decide_eq_true (Hk.get hke9 35 rfl)
  have k27 : PySem.W.keepIn K (.ref (He.fAd K ("Lengths", some "join"))) = true := of_decide_eq_true (Hk.get hke9 36 rfl)
  have a28 : PySem.W.findIn K (.ref (He.ga K "Lengths")) "times" = some (some (.ref (He.fAd K ("Lengths", some "times")))) := of_decide_eq_true (Hk.get hke9 37 rfl)
  have i28 : PySem.W.isFn K (.ref (He.fAd K ("Lengths", some "times"))) = true := of_decide_eq_true (Hk.get hke9 38 rfl)
  have k28 : PySem.W.keepIn K (.ref (He.fAd K ("Lengths", some "times"))) = true := of_decide_eq_true (Hk.get hke9 39 rfl)
  have a29 : PySem.W.nsIn K mainGlobals "as_ratio" = some (some (.ref (He.fAd K ("as_ratio", none)))) := of_decide_eq_true (Hk.get hke10 0 rfl)
  have k29 : PySem.W.keepIn K (.ref (He.fAd K ("as_ratio", none))) = true := of_decide_eq_true (Hk.get hke10 1 rfl)
  have a30 : PySem.W.findIn K (.ref (He.ga K "Ratio")) "__add__" = some (some (.ref (He.fAd K ("Ratio", some "__add__")))) := of_decide_eq_true (Hk.get hke10 2 rfl)
  have i30 : PySem.W.isFn K (.ref (He.fAd K ("Ratio", some "__add__"))) = true := of_decide_eq_true (Hk.get hke10 3 rfl)
  have k30 : PySem.W.keepIn K (.ref (He.fAd K ("Ratio", some "__add__"))) = true := of_decide_eq_true (Hk.get hke10 4 rfl)
  have a31 : PySem.W.findIn K (.ref (He.ga K "Ratio")) "__radd__" = some (some (.ref (He.fAd K ("Ratio", some "__radd__")))) := of_decide_eq_true (Hk.get hke10 5 rfl)
  have i31 : PySem.W.isFn K (.ref (He.fAd K ("Ratio", some "__radd__"))) = true := of_decide_eq_true (Hk.get hke10 6 rfl)
  have k31 : PySem.W.keepIn K (.ref (He.fAd K ("Ratio", some "__radd__"))) = true := of_decide_eq_true (Hk.get hke10 7 rfl)
  have a32 : PySem.W.findIn K (.ref (He.ga K "Ratio")) "__mul__" = some (some (.ref (He.fAd K ("Ratio", some "__mul__")))) := of_decide_eq_true (Hk.get hke10 8 rfl)
  have i32 : PySem.W.isFn K (.ref (He.fAd K ("Ratio", some "__mul__"))) = true := of_decide_eq_true (Hk.get hke10 9 rfl)
  have k32 : PySem.W.keepIn K (.ref (He.fAd K ("Ratio", some "__mul__"))) = true := of_decide_eq_true (Hk.get hke10 10 rfl)
  have a33 : PySem.W.findIn K (.ref (He.ga K "Ratio")) "__rmul__" = some (some (.ref (He.fAd K ("Ratio", some "__rmul__")))) := of_decide_eq_true (Hk.get hke10 11 rfl)
  have i33 : PySem.W.isFn K (.ref (He.fAd K ("Ratio", some "__rmul__"))) = true := of_decide_eq_true (Hk.get hke10 12 rfl)
  have k33 : PySem.W.keepIn K (.ref (He.fAd K ("Ratio", some "__rmul__"))) = true := of_decide_eq_true (Hk.get hke10 13 rfl)
  have a34 : PySem.W.findIn K (.ref (He.ga K "Ratio")) "__eq__" = some (some (.ref (He.fAd K ("Ratio", some "__eq__")))) := of_decide_eq_true (Hk.get hke10 14 rfl)
  have i34 : PySem.W.isFn K (.ref (He.fAd K ("Ratio", some "__eq__"))) = true := of_decide_eq_true (Hk.get hke10 15 rfl)
  have k34 : PySem.W.keepIn K (.ref (He.fAd K ("Ratio", some "__eq__"))) = true := of_decide_eq_true (Hk.get hke10 16 rfl)
  have a35 : PySem.W.findIn K (.ref (He.ga K "Numbers")) "check" = some (some (.ref (He.fAd K ("Numbers", some "check")))) := of_decide_eq_true (Hk.get hke10 17 rfl)
  have i35 : PySem.W.isFn K (.ref (He.fAd K ("Numbers", some "check"))) = true := of_decide_eq_true (Hk.get hke10 18 rfl)
  have k35 : PySem.W.keepIn K (.ref (He.fAd K ("Numbers", some "check"))) = true := of_decide_eq_true (Hk.get hke10 19 rfl)
  have a36 : PySem.W.findIn K (.ref (He.ga K "Numbers")) "join" = some (some (.ref (He.fAd K ("Numbers", some "join")))) := of_decide_eq_true (Hk.get hke10 20 rfl)
  have i36 : PySem.W.isFn K (.ref (He.fAd K ("Numbers", some "join"))) = true := of_decide_eq_true (Hk.get hke10 21 rfl)
  have k36 : PySem.W.keepIn K (.ref (He.fAd K ("Numbers", some "join"))) = true := of_decide_eq_true (Hk.get hke10 22 rfl)
  have a37 : PySem.W.findIn K (.ref (He.ga K "Numbers")) "times" = some (some (.ref (He.fAd K ("Numbers", some "times")))) := of_decide_eq_true (Hk.get hke10 23 rfl)
  have i37 : PySem.W.isFn K (.ref (He.fAd K ("Numbers", some "times"))) = true := of_decide_eq_true (Hk.get hke10 24 rfl)
  have k37 : PySem.W.keepIn K (.ref (He.fAd K ("Numbers", some "times"))) = true := of_decide_eq_true (Hk.get hke10 25 rfl)
  have a38 : PySem.W.nsIn K mainGlobals "is_letters" = some (some (.ref (He.fAd K ("is_letters", none)))) := of_decide_eq_true (Hk.get hke10 26 rfl)
  have k38 : PySem.W.keepIn K (.ref (He.fAd K ("is_letters", none))) = true := of_decide_eq_true (Hk.get hke10 27 rfl)
  have a39 : PySem.W.nsIn K mainGlobals "is_letter" = some (some (.ref (He.fAd K ("is_letter", none)))) := of_decide_eq_true (Hk.get hke10 28 rfl)
  have k39 : PySem.W.keepIn K (.ref (He.fAd K ("is_letter", none))) = true := of_decide_eq_true (Hk.get hke10 29 rfl)
  have a40 : PySem.W.nsIn K mainGlobals "is_name" = some (some (.ref (He.fAd K ("is_name", none)))) := of_decide_eq_true (Hk.get hke10 30 rfl)
  have k40 : PySem.W.keepIn K (.ref (He.fAd K ("is_name", none))) = true := of_decide_eq_true (Hk.get hke10 31 rfl)
  have a41 : PySem.W.nsIn K mainGlobals "check_reckoning" = some (some (.ref (He.fAd K ("check_reckoning", none)))) := of_decide_eq_true (Hk.get hke10 32 rfl)
  have k41 : PySem.W.keepIn K (.ref (He.fAd K ("check_reckoning", none))) = true := of_decide_eq_true (Hk.get hke10 33 rfl)
  have a42 : PySem.W.nsIn K mainGlobals "plain_worth" = some (some (.ref (He.fAd K ("plain_worth", none)))) := of_decide_eq_true (Hk.get hke10 34 rfl)
  have k42 : PySem.W.keepIn K (.ref (He.fAd K ("plain_worth", none))) = true := of_decide_eq_true (Hk.get hke10 35 rfl)
  have a43 : PySem.W.nsIn K mainGlobals "checked_places" = some (some (.ref (He.fAd K ("checked_places", none)))) := of_decide_eq_true (Hk.get hke10 36 rfl)
  have k43 : PySem.W.keepIn K (.ref (He.fAd K ("checked_places", none))) = true := of_decide_eq_true (Hk.get hke10 37 rfl)
  have a44 : PySem.W.nsIn K mainGlobals "is_road" = some (some (.ref (He.fAd K ("is_road", none)))) := of_decide_eq_true (Hk.get hke10 38 rfl)
  have k44 : PySem.W.keepIn K (.ref (He.fAd K ("is_road", none))) = true := of_decide_eq_true (Hk.get hke10 39 rfl)
  have a45 : PySem.W.nsIn K mainGlobals "checked_roads" = some (some (.ref (He.fAd K ("checked_roads", none)))) := of_decide_eq_true (Hk.get hke11 0 rfl)
  have k45 : PySem.W.keepIn K (.ref (He.fAd K ("checked_roads", none))) = true := of_decide_eq_true (Hk.get hke11 1 rfl)
  have a46 : PySem.W.findIn K (.ref (He.ga K "Web")) "__init__" = some (some (.ref (He.fAd K ("Web", some "__init__")))) := of_decide_eq_true (Hk.get hke11 2 rfl)
  have i46 : PySem.W.isFn K (.ref (He.fAd K ("Web", some "__init__"))) = true := of_decide_eq_true (Hk.get hke11 3 rfl)
  have mk5 : PySem.W.makesIn K (He.ga K "Web") = true := of_decide_eq_true (Hk.get hke11 4 rfl)
  have kc5 : PySem.W.keepIn K (.ref (He.ga K "Web")) = true := of_decide_eq_true (Hk.get hke11 5 rfl)
  have k46 : PySem.W.keepIn K (.ref (He.fAd K ("Web", some "__init__"))) = true := of_decide_eq_true (Hk.get hke11 6 rfl)
  have a47 : PySem.W.findIn K (.ref (He.ga K "Web")) "worth" = some (some (.ref (He.fAd K ("Web", some "worth")))) := of_decide_eq_true (Hk.get hke11 7 rfl)
  have i47 : PySem.W.isFn K (.ref (He.fAd K ("Web", some "worth"))) = true := of_decide_eq_true (Hk.get hke11 8 rfl)
  have k47 : PySem.W.keepIn K (.ref (He.fAd K ("Web", some "worth"))) = true := of_decide_eq_true (Hk.get hke11 9 rfl)
  have a48 : PySem.W.nsIn K mainGlobals "_law_hand" = some (some (.ref (He.fAd K ("_law_hand", none)))) := of_decide_eq_true (Hk.get hke11 10 rfl)
  have k48 : PySem.W.keepIn K (.ref (He.fAd K ("_law_hand", none))) = true := of_decide_eq_true (Hk.get hke11 11 rfl)
  have a49 : PySem.W.nsIn K mainGlobals "_law_draw" = some (some (.ref (He.fAd K ("_law_draw", none)))) := of_decide_eq_true (Hk.get hke11 12 rfl)
  have k49 : PySem.W.keepIn K (.ref (He.fAd K ("_law_draw", none))) = true := of_decide_eq_true (Hk.get hke11 13 rfl)
  have a50 : PySem.W.nsIn K mainGlobals "_law_chain" = some (some (.ref (He.fAd K ("_law_chain", none)))) := of_decide_eq_true (Hk.get hke11 14 rfl)
  have k50 : PySem.W.keepIn K (.ref (He.fAd K ("_law_chain", none))) = true := of_decide_eq_true (Hk.get hke11 15 rfl)
  have a51 : PySem.W.nsIn K mainGlobals "_law_products" = some (some (.ref (He.fAd K ("_law_products", none)))) := of_decide_eq_true (Hk.get hke11 16 rfl)
  have k51 : PySem.W.keepIn K (.ref (He.fAd K ("_law_products", none))) = true := of_decide_eq_true (Hk.get hke11 17 rfl)
  have a52 : PySem.W.nsIn K mainGlobals "_law_monoid" = some (some (.ref (He.fAd K ("_law_monoid", none)))) := of_decide_eq_true (Hk.get hke11 18 rfl)
  have k52 : PySem.W.keepIn K (.ref (He.fAd K ("_law_monoid", none))) = true := of_decide_eq_true (Hk.get hke11 19 rfl)
  have a53 : PySem.W.nsIn K mainGlobals "_law_lot" = some (some (.ref (He.fAd K ("_law_lot", none)))) := of_decide_eq_true (Hk.get hke11 20 rfl)
  have k53 : PySem.W.keepIn K (.ref (He.fAd K ("_law_lot", none))) = true := of_decide_eq_true (Hk.get hke11 21 rfl)
  have a54 : PySem.W.nsIn K mainGlobals "_law_lots" = some (some (.ref (He.fAd K ("_law_lots", none)))) := of_decide_eq_true (Hk.get hke11 22 rfl)
  have k54 : PySem.W.keepIn K (.ref (He.fAd K ("_law_lots", none))) = true := of_decide_eq_true (Hk.get hke11 23 rfl)
  have a55 : PySem.W.nsIn K mainGlobals "_law_paired" = some (some (.ref (He.fAd K ("_law_paired", none)))) := of_decide_eq_true (Hk.get hke11 24 rfl)
  have k55 : PySem.W.keepIn K (.ref (He.fAd K ("_law_paired", none))) = true := of_decide_eq_true (Hk.get hke11 25 rfl)
  have a56 : PySem.W.nsIn K mainGlobals "_law_beside" = some (some (.ref (He.fAd K ("_law_beside", none)))) := of_decide_eq_true (Hk.get hke11 26 rfl)
  have k56 : PySem.W.keepIn K (.ref (He.fAd K ("_law_beside", none))) = true := of_decide_eq_true (Hk.get hke11 27 rfl)
  have a57 : PySem.W.nsIn K mainGlobals "_law_turned" = some (some (.ref (He.fAd K ("_law_turned", none)))) := of_decide_eq_true (Hk.get hke11 28 rfl)
  have k57 : PySem.W.keepIn K (.ref (He.fAd K ("_law_turned", none))) = true := of_decide_eq_true (Hk.get hke11 29 rfl)
  have a58 : PySem.W.nsIn K mainGlobals "_law_order" = some (some (.ref (He.fAd K ("_law_order", none)))) := of_decide_eq_true (Hk.get hke11 30 rfl)
  have k58 : PySem.W.keepIn K (.ref (He.fAd K ("_law_order", none))) = true := of_decide_eq_true (Hk.get hke11 31 rfl)
  have a59 : PySem.W.nsIn K mainGlobals "_law_renamed" = some (some (.ref (He.fAd K ("_law_renamed", none)))) := of_decide_eq_true (Hk.get hke11 32 rfl)
  have k59 : PySem.W.keepIn K (.ref (He.fAd K ("_law_renamed", none))) = true := of_decide_eq_true (Hk.get hke11 33 rfl)
  have a60 : PySem.W.nsIn K mainGlobals "_law_made" = some (some (.ref (He.fAd K ("_law_made", none)))) := of_decide_eq_true (Hk.get hke11 34 rfl)
  have k60 : PySem.W.keepIn K (.ref (He.fAd K ("_law_made", none))) = true := of_decide_eq_true (Hk.get hke11 35 rfl)
  have a61 : PySem.W.nsIn K mainGlobals "_law_names" = some (some (.ref (He.fAd K ("_law_names", none)))) := of_decide_eq_true (Hk.get hke11 36 rfl)
  have k61 : PySem.W.keepIn K (.ref (He.fAd K ("_law_names", none))) = true := of_decide_eq_true (Hk.get hke11 37 rfl)
  have a62 : PySem.W.nsIn K mainGlobals "_law_reckoning" = some (some (.ref (He.fAd K ("_law_reckoning", none)))) := of_decide_eq_true (Hk.get hke11 38 rfl)
  have k62 : PySem.W.keepIn K (.ref (He.fAd K ("_law_reckoning", none))) = true := of_decide_eq_true (Hk.get hke11 39 rfl)
  have a63 : PySem.W.nsIn K mainGlobals "_law_none" = some (some (.ref (He.fAd K ("_law_none", none)))) := of_decide_eq_true (Hk.get hke12 0 rfl)
  have k63 : PySem.W.keepIn K (.ref (He.fAd K ("_law_none", none))) = true := of_decide_eq_true (Hk.get hke12 1 rfl)
  have a64 : PySem.W.nsIn K mainGlobals "_law_handed" = some (some (.ref (He.fAd K ("_law_handed", none)))) := of_decide_eq_true (Hk.get hke12 2 rfl)
  have k64 : PySem.W.keepIn K (.ref (He.fAd K ("_law_handed", none))) = true := of_decide_eq_true (Hk.get hke12 3 rfl)
  have a65 : PySem.W.nsIn K mainGlobals "_law_world" = some (some (.ref (He.fAd K ("_law_world", none)))) := of_decide_eq_true (Hk.get hke12 4 rfl)
  have k65 : PySem.W.keepIn K (.ref (He.fAd K ("_law_world", none))) = true := of_decide_eq_true (Hk.get hke12 5 rfl)
  have a66 : PySem.W.nsIn K mainGlobals "_law_worth" = some (some (.ref (He.fAd K ("_law_worth", none)))) := of_decide_eq_true (Hk.get hke12 6 rfl)
  have k66 : PySem.W.keepIn K (.ref (He.fAd K ("_law_worth", none))) = true := of_decide_eq_true (Hk.get hke12 7 rfl)
  have a67 : PySem.W.nsIn K mainGlobals "_law_roads" = some (some (.ref (He.fAd K ("_law_roads", none)))) := of_decide_eq_true (Hk.get hke12 8 rfl)
  have k67 : PySem.W.keepIn K (.ref (He.fAd K ("_law_roads", none))) = true := of_decide_eq_true (Hk.get hke12 9 rfl)
  have a68 : PySem.W.nsIn K mainGlobals "_law_web" = some (some (.ref (He.fAd K ("_law_web", none)))) := of_decide_eq_true (Hk.get hke12 10 rfl)
  have k68 : PySem.W.keepIn K (.ref (He.fAd K ("_law_web", none))) = true := of_decide_eq_true (Hk.get hke12 11 rfl)
  have a69 : PySem.W.nsIn K mainGlobals "_law_is_worth" = some (some (.ref (He.fAd K ("_law_is_worth", none)))) := of_decide_eq_true (Hk.get hke12 12 rfl)
  have k69 : PySem.W.keepIn K (.ref (He.fAd K ("_law_is_worth", none))) = true := of_decide_eq_true (Hk.get hke12 13 rfl)
  have a70 : PySem.W.nsIn K mainGlobals "_law_place" = some (some (.ref (He.fAd K ("_law_place", none)))) := of_decide_eq_true (Hk.get hke12 14 rfl)
  have k70 : PySem.W.keepIn K (.ref (He.fAd K ("_law_place", none))) = true := of_decide_eq_true (Hk.get hke12 15 rfl)
  have a71 : PySem.W.nsIn K mainGlobals "_law_letter" = some (some (.ref (He.fAd K ("_law_letter", none)))) := of_decide_eq_true (Hk.get hke12 16 rfl)
  have k71 : PySem.W.keepIn K (.ref (He.fAd K ("_law_letter", none))) = true := of_decide_eq_true (Hk.get hke12 17 rfl)
  have a72 : PySem.W.nsIn K mainGlobals "_law_asked" = some (some (.ref (He.fAd K ("_law_asked", none)))) := of_decide_eq_true (Hk.get hke12 18 rfl)
  have k72 : PySem.W.keepIn K (.ref (He.fAd K ("_law_asked", none))) = true := of_decide_eq_true (Hk.get hke12 19 rfl)
  have a73 : PySem.W.nsIn K mainGlobals "_law_is_place" = some (some (.ref (He.fAd K ("_law_is_place", none)))) := of_decide_eq_true (Hk.get hke12 20 rfl)
  have k73 : PySem.W.keepIn K (.ref (He.fAd K ("_law_is_place", none))) = true := of_decide_eq_true (Hk.get hke12 21 rfl)
  have a74 : PySem.W.nsIn K mainGlobals "_law_right" = some (some (.ref (He.fAd K ("_law_right", none)))) := of_decide_eq_true (Hk.get hke12 22 rfl)
  have k74 : PySem.W.keepIn K (.ref (He.fAd K ("_law_right", none))) = true := of_decide_eq_true (Hk.get hke12 23 rfl)
  have a75 : PySem.W.nsIn K mainGlobals "law" = some (some (.ref (He.fAd K ("law", none)))) := of_decide_eq_true (Hk.get hke12 24 rfl)
  have k75 : PySem.W.keepIn K (.ref (He.fAd K ("law", none))) = true := of_decide_eq_true (Hk.get hke12 25 rfl)
  have z0 : PySem.W.nsIn K mainGlobals "isinstance" = some none := of_decide_eq_true (Hk.get hke12 26 rfl)
  have z1 : PySem.W.nsIn K mainGlobals "int" = some none := of_decide_eq_true (Hk.get hke12 27 rfl)
  have z2 : PySem.W.nsIn K mainGlobals "bool" = some none := of_decide_eq_true (Hk.get hke12 28 rfl)
  have z3 : PySem.W.nsIn K mainGlobals "abs" = some none := of_decide_eq_true (Hk.get hke12 29 rfl)
  have z4 : PySem.W.nsIn K mainGlobals "len" = some none := of_decide_eq_true (Hk.get hke12 30 rfl)
  have z5 : PySem.W.nsIn K mainGlobals "all" = some none := of_decide_eq_true (Hk.get hke12 31 rfl)
  have z6 : PySem.W.nsIn K mainGlobals "list" = some none := of_decide_eq_true (Hk.get hke12 32 rfl)
  have z7 : PySem.W.nsIn K mainGlobals "tuple" = some none := of_decide_eq_true (Hk.get hke12 33 rfl)
  have z8 : PySem.W.nsIn K mainGlobals "range" = some none := of_decide_eq_true (Hk.get hke12 34 rfl)
  have z9 : PySem.W.nsIn K mainGlobals "min" = some none := of_decide_eq_true (Hk.get hke12 35 rfl)
  have z10 : PySem.W.nsIn K mainGlobals "NotImplemented" = some none := of_decide_eq_true (Hk.get hke12 36 rfl)
  have z11 : PySem.W.nsIn K mainGlobals "str" = some none := of_decide_eq_true (Hk.get hke12 37 rfl)
  have z12 : PySem.W.nsIn K mainGlobals "enumerate" = some none := of_decide_eq_true (Hk.get hke12 38 rfl)
  have z13 : PySem.W.nsIn K mainGlobals "max" = some none := of_decide_eq_true (Hk.get hke12 39 rfl)
  obtain ⟨t0, y0⟩ := He.int_ok X G (c.t.d.fact 0 (f := .int "LEAST_SIZE" 2) rfl)
  obtain ⟨t1, y1⟩ := He.int_ok X G (c.t.d.fact 1 (f := .int "MOST_SIZE" 16) rfl)
  obtain ⟨t2, y2⟩ := He.str_ok X G (c.t.d.fact 2 (f := .str "LETTERS" "abcdefghijklmnopqrstuvwxyz") rfl)
  obtain ⟨t3, y3⟩ := He.int_ok X G (c.t.d.fact 3 (f := .int "MOST_NAME" 8) rfl)
  obtain ⟨t4, y4⟩ := He.int_ok X G (c.t.d.fact 4 (f := .int "MOST_PLACES" 10) rfl)
  obtain ⟨t5, y5⟩ := He.int_ok X G (c.t.d.fact 5 (f := .int "MOST_ROADS" 80) rfl)
  obtain ⟨_, _, _, _, _, _, _, _, _, e75, _, _⟩ := id F75.ex
  subst e75
  have e := hfa.symm.trans (PySem.W.mg_of X G a75)
  cases e
  obtain ⟨dsN4, rN4, bN4⟩ := D4.binds1 (ps := ["self", "top", "bottom"]) 3 1 (by simp) rfl (fun _ _ _ _ _ _ _ us its h1 h2 => match us, its, h1, h2 with | [_, _, _], [_], _, _ => ⟨_, rfl, rfl⟩)
  cases rN4
  obtain ⟨ds4, rD4, bD4⟩ := D4.binds1 (ps := ["self", "top", "bottom"]) 2 0 (by simp) rfl (fun _ _ _ _ _ _ _ us its h1 h2 => match us, its, h1, h2 with | [_, _], [_], _, _ => ⟨_, rfl, rfl⟩)
  let T : Txt K mg := {
    C_Ratio := (He.ga K "Ratio"), c_Ratio := PySem.W.mg_of X G u0,
    cl_Ratio := ⟨pg0, hd0, po0, sa0⟩, ty_Ratio := ⟨wc0, wn0, wt0, wm0, kit_self⟩,
    na_Ratio_top := na0_0,
    na_Ratio_bottom := na0_1,
    ki_Ratio := fx0_0,
    kb_Ratio := fx0_1,
    ic_Ratio := fx0_2,
    tc_Ratio := fx0_3,
    s_Ratio_Numbers := fx0_4,
    sl_Ratio := fx0_5,
    ne_Ratio := fx0_6,
    first_Ratio := fx0_7,
    C_Numbers := (He.ga K "Numbers"), c_Numbers := PySem.W.mg_of X G u1,
    cl_Numbers := ⟨pg1, hd1, po1, sa1⟩, ty_Numbers := ⟨wc1, wn1, wt1, wm1, kit_self⟩,
    na_Numbers_none := na1_0,
    na_Numbers_one := na1_1,
    ki_Numbers := fx1_0,
    kb_Numbers := fx1_1,
    ic_Numbers := fx1_2,
    tc_Numbers := fx1_3,
    s_Numbers_Ratio := fx1_4,
    s_Numbers_Reckoning := fx1_5,
    s_Numbers_Lengths := fx1_6,
    s_Numbers_Tongues := fx1_7,
    sl_Numbers := fx1_8,
    ne_Numbers := fx1_9,
    kn_Numbers := fx1_10,
    ks_Numbers := fx1_11,
    kl_Numbers := fx1_12,
    C_Lengths := (He.ga K "Lengths"), c_Lengths := PySem.W.mg_of X G u2,
    cl_Lengths := ⟨pg2, hd2, po2, sa2⟩, ty_Lengths := ⟨wc2, wn2, wt2, wm2, kit_self⟩,
    na_Lengths_none := na2_0,
    na_Lengths_one := na2_1,
    ki_Lengths := fx2_0,
    kb_Lengths := fx2_1,
    ic_Lengths := fx2_2,
    tc_Lengths := fx2_3,
    s_Lengths_Ratio := fx2_4,
    s_Lengths_Numbers := fx2_5,
    s_Lengths_Reckoning := fx2_6,
    s_Lengths_Tongues := fx2_7,
    sl_Lengths := fx2_8,
    ne_Lengths := fx2_9,
    C_Reckoning := (He.ga K "Reckoning"), c_Reckoning := PySem.W.mg_of X G u3,
    cl_Reckoning := ⟨pg3, hd3, po3, sa3⟩, ty_Reckoning := ⟨wc3, wn3, wt3, wm3, kit_self⟩,
    na_Reckoning_joins := na3_0,
    na_Reckoning_products := na3_1,
    na_Reckoning_none := na3_2,
    na_Reckoning_one := na3_3,
    na_Reckoning_meets := na3_4,
    na_Reckoning_lefts := na3_5,
    na_Reckoning_rights := na3_6,
    ki_Reckoning := fx3_0,
    kb_Reckoning := fx3_1,
    ic_Reckoning := fx3_2,
    tc_Reckoning := fx3_3,
    s_Reckoning_Ratio := fx3_4,
    s_Reckoning_Numbers := fx3_5,
    s_Reckoning_Lengths := fx3_6,
    s_Reckoning_Tongues := fx3_7,
    sl_Reckoning := fx3_8,
    ne_Reckoning := fx3_9,
    C_Tongues := (He.ga K "Tongues"), c_Tongues := PySem.W.mg_of X G u4,
    cl_Tongues := ⟨pg4, hd4, po4, sa4⟩, ty_Tongues := ⟨wc4, wn4, wt4, wm4, kit_self⟩,
    na_Tongues_signs := na4_0,
    na_Tongues_none := na4_1,
    na_Tongues_one := na4_2,
    ki_Tongues := fx4_0,
    kb_Tongues := fx4_1,
    ic_Tongues := fx4_2,
    tc_Tongues := fx4_3,
    sl_Tongues := fx4_4,
    C_Web := (He.ga K "Web"), c_Web := PySem.W.mg_of X G u5,
    cl_Web := ⟨pg5, hd5, po5, sa5⟩, ty_Web := ⟨wc5, wn5, wt5, wm5, kit_self⟩,
    na_Web_reckoning := na5_0,
    na_Web_places := na5_1,
    na_Web_kept := na5_2,
    na_Web_roads := na5_3,
    C_BadNumber := (He.ga K "BadNumber"), c_BadNumber := PySem.W.mg_of X G ue0, X_BadNumber := ⟨⟨xl0, xa0, xb0, xc0, xd0⟩, ⟨xg0, xh0, xb0, xi0, xj0, xn, xo, xm0⟩, xe0, xf0, xp0, xs0⟩,
    C_BadReckoning := (He.ga K "BadReckoning"), c_BadReckoning := PySem.W.mg_of X G ue1, X_BadReckoning := ⟨⟨xl1, xa1, xb1, xc1, xd1⟩, ⟨xg1, xh1, xb1, xi1, xj1, xn, xo, xm1⟩, xe1, xf1, xp1, xs1⟩,
    C_BadWorth := (He.ga K "BadWorth"), c_BadWorth := PySem.W.mg_of X G ue2, X_BadWorth := ⟨⟨xl2, xa2, xb2, xc2, xd2⟩, ⟨xg2, xh2, xb2, xi2, xj2, xn, xo, xm2⟩, xe2, xf2, xp2, xs2⟩,
    C_BadWeb := (He.ga K "BadWeb"), c_BadWeb := PySem.W.mg_of X G ue3, X_BadWeb := ⟨⟨xl3, xa3, xb3, xc3, xd3⟩, ⟨xg3, xh3, xb3, xi3, xj3, xn, xo, xm3⟩, xe3, xf3, xp3, xs3⟩,
    C_BadName := (He.ga K "BadName"), c_BadName := PySem.W.mg_of X G ue4, X_BadName := ⟨⟨xl4, xa4, xb4, xc4, xd4⟩, ⟨xg4, xh4, xb4, xi4, xj4, xn, xo, xm4⟩, xe4, xf4, xp4, xs4⟩,
    C_BadLetter := (He.ga K "BadLetter"), c_BadLetter := PySem.W.mg_of X G ue5, X_BadLetter := ⟨⟨xl5, xa5, xb5, xc5, xd5⟩, ⟨xg5, xh5, xb5, xi5, xj5, xn, xo, xm5⟩, xe5, xf5, xp5, xs5⟩,
    C_WayError := (He.ga K "WayError"), c_WayError := PySem.W.mg_of X G ue6, X_WayError := ⟨⟨xl6, xa6, xb6, xc6, xd6⟩, ⟨xg6, xh6, xb6, xi6, xj6, xn, xo, xm6⟩, xe6, xf6, xp6, xs6⟩,
    s_BadNumber_WayError := sp0,
    s_BadNumber_BadName := sp1,
    s_BadNumber_BadLetter := sp2,
    s_BadReckoning_WayError := sp3,
    s_BadReckoning_BadName := sp4,
    s_BadReckoning_BadLetter := sp5,
    s_BadWorth_WayError := sp6,
    s_BadWorth_BadName := sp7,
    s_BadWorth_BadLetter := sp8,
    s_BadWeb_WayError := sp9,
    s_BadWeb_BadName := sp10,
    s_BadWeb_BadLetter := sp11,
    s_BadName_WayError := sp12,
    s_BadName_BadName := sp13,
    s_BadName_BadLetter := sp14,
    s_BadLetter_WayError := sp15,
    s_BadLetter_BadName := sp16,
    s_BadLetter_BadLetter := sp17,
    f_WayError_init := (He.fAd K ("BadNumber", some "__init__")), fd_WayError_init := _, D_WayError_init := D1, b_WayError_init := Rx.binds2 D1 (fun _ _ _ _ _ _ _ us its h1 h2 => match us, its, h1, h2 with | [_, _], [_], _, _ => ⟨_, rfl, rfl⟩), tI_WayError_init := tI,
    f_is_integer := (He.fAd K ("is_integer", none)), fd_is_integer := _, F_is_integer := F2, g_is_integer := PySem.W.mg_of X G a2, b_is_integer := F2.binds (ps := ["value"]) fun _ _ _ _ _ _ us hl => match us, hl with | [_], _ => rfl,
    f_common := (He.fAd K ("common", none)), fd_common := _, F_common := F3, g_common := PySem.W.mg_of X G a3, b_common := F3.binds (ps := ["one", "other"]) fun _ _ _ _ _ _ us hl => match us, hl with | [_, _], _ => rfl,
    f_Ratio_init := (He.fAd K ("Ratio", some "__init__")), fd_Ratio_init := _, D_Ratio_init := D4, M_Ratio := ⟨mk0, a4, i4, kc0⟩, b_Ratio_init := bN4, ds_Ratio_init := ds4, rd_Ratio_init := rD4, b1_Ratio_init := bD4,
    f_is_number := (He.fAd K ("is_number", none)), fd_is_number := _, F_is_number := F5, g_is_number := PySem.W.mg_of X G a5, b_is_number := F5.binds (ps := ["value"]) fun _ _ _ _ _ _ us hl => match us, hl with | [_], _ => rfl,
    f_Numbers_init := (He.fAd K ("Numbers", some "__init__")), fd_Numbers_init := _, F_Numbers_init := F6, M_Numbers := ⟨mk1, a6, i6, kc1⟩, b_Numbers_init := F6.binds (ps := ["self"]) fun _ _ _ _ _ _ us hl => match us, hl with | [_], _ => rfl,
    f_Numbers_eq := (He.fAd K ("Numbers", some "__eq__")), fd_Numbers_eq := _, F_Numbers_eq := F7, h_Numbers_eq := ⟨a7, i7, k7⟩, b_Numbers_eq := F7.binds (ps := ["self", "other"]) fun _ _ _ _ _ _ us hl => match us, hl with | [_, _], _ => rfl,
    f_Numbers_is_worth := (He.fAd K ("Numbers", some "is_worth")), fd_Numbers_is_worth := _, F_Numbers_is_worth := F8, h_Numbers_is_worth := ⟨a8, i8, k8⟩, b_Numbers_is_worth := F8.binds (ps := ["self", "thing"]) fun _ _ _ _ _ _ us hl => match us, hl with | [_, _], _ => rfl,
    f_Lengths_init := (He.fAd K ("Lengths", some "__init__")), fd_Lengths_init := _, F_Lengths_init := F9, M_Lengths := ⟨mk2, a9, i9, kc2⟩, b_Lengths_init := F9.binds (ps := ["self"]) fun _ _ _ _ _ _ us hl => match us, hl with | [_], _ => rfl,
    f_Lengths_eq := (He.fAd K ("Lengths", some "__eq__")), fd_Lengths_eq := _, F_Lengths_eq := F10, h_Lengths_eq := ⟨a10, i10, k10⟩, b_Lengths_eq := F10.binds (ps := ["self", "other"]) fun _ _ _ _ _ _ us hl => match us, hl with | [_, _], _ => rfl,
    f_Lengths_is_worth := (He.fAd K ("Lengths", some "is_worth")), fd_Lengths_is_worth := _, F_Lengths_is_worth := F11, h_Lengths_is_worth := ⟨a11, i11, k11⟩, b_Lengths_is_worth := F11.binds (ps := ["self", "thing"]) fun _ _ _ _ _ _ us hl => match us, hl with | [_, _], _ => rfl,
    f_is_square := (He.fAd K ("is_square", none)), fd_is_square := _, F_is_square := F12, g_is_square := PySem.W.mg_of X G a12, b_is_square := F12.binds (ps := ["rows", "size"]) fun _ _ _ _ _ _ us hl => match us, hl with | [_, _], _ => rfl,
    f_check_size := (He.fAd K ("check_size", none)), fd_check_size := _, F_check_size := F13, g_check_size := PySem.W.mg_of X G a13, b_check_size := F13.binds (ps := ["joins", "products", "none", "one"]) fun _ _ _ _ _ _ us hl => match us, hl with | [_, _, _, _], _ => rfl,
    f_check_singles := (He.fAd K ("check_singles", none)), fd_check_singles := _, F_check_singles := F14, g_check_singles := PySem.W.mg_of X G a14, b_check_singles := F14.binds (ps := ["joins", "products", "none", "one"]) fun _ _ _ _ _ _ us hl => match us, hl with | [_, _, _, _], _ => rfl,
    f_check_swaps := (He.fAd K ("check_swaps", none)), fd_check_swaps := _, F_check_swaps := F15, g_check_swaps := PySem.W.mg_of X G a15, b_check_swaps := F15.binds (ps := ["joins"]) fun _ _ _ _ _ _ us hl => match us, hl with | [_], _ => rfl,
    f_check_grouping := (He.fAd K ("check_grouping", none)), fd_check_grouping := _, F_check_grouping := F16, g_check_grouping := PySem.W.mg_of X G a16, b_check_grouping := F16.binds (ps := ["word", "rows"]) fun _ _ _ _ _ _ us hl => match us, hl with | [_, _], _ => rfl,
    f_check_over := (He.fAd K ("check_over", none)), fd_check_over := _, F_check_over := F17, g_check_over := PySem.W.mg_of X G a17, b_check_over := F17.binds (ps := ["joins", "products"]) fun _ _ _ _ _ _ us hl => match us, hl with | [_, _], _ => rfl,
    f_Reckoning_joined := (He.fAd K ("Reckoning", some "joined")), fd_Reckoning_joined := _, F_Reckoning_joined := F18, h_Reckoning_joined := ⟨a18, i18, k18⟩, b_Reckoning_joined := F18.binds (ps := ["self", "worths"]) fun _ _ _ _ _ _ us hl => match us, hl with | [_, _], _ => rfl,
    f_Reckoning_met := (He.fAd K ("Reckoning", some "met")), fd_Reckoning_met := _, F_Reckoning_met := F19, h_Reckoning_met := ⟨a19, i19, k19⟩, b_Reckoning_met := F19.binds (ps := ["self", "a", "b"]) fun _ _ _ _ _ _ us hl => match us, hl with | [_, _, _], _ => rfl,
    f_Reckoning_init := (He.fAd K ("Reckoning", some "__init__")), fd_Reckoning_init := _, F_Reckoning_init := F20, M_Reckoning := ⟨mk3, a20, i20, kc3⟩, b_Reckoning_init := F20.binds (ps := ["self", "joins", "products", "none", "one"]) fun _ _ _ _ _ _ us hl => match us, hl with | [_, _, _, _, _], _ => rfl,
    f_Reckoning_eq := (He.fAd K ("Reckoning", some "__eq__")), fd_Reckoning_eq := _, F_Reckoning_eq := F21, h_Reckoning_eq := ⟨a21, i21, k21⟩, b_Reckoning_eq := F21.binds (ps := ["self", "other"]) fun _ _ _ _ _ _ us hl => match us, hl with | [_, _], _ => rfl,
    f_Reckoning_is_worth := (He.fAd K ("Reckoning", some "is_worth")), fd_Reckoning_is_worth := _, F_Reckoning_is_worth := F22, h_Reckoning_is_worth := ⟨a22, i22, k22⟩, b_Reckoning_is_worth := F22.binds (ps := ["self", "thing"]) fun _ _ _ _ _ _ us hl => match us, hl with | [_, _], _ => rfl,
    f_Reckoning_check := (He.fAd K ("Reckoning", some "check")), fd_Reckoning_check := _, F_Reckoning_check := F23, h_Reckoning_check := ⟨a23, i23, k23⟩, b_Reckoning_check := F23.binds (ps := ["self", "worths"]) fun _ _ _ _ _ _ us hl => match us, hl with | [_, _], _ => rfl,
    f_Reckoning_join := (He.fAd K ("Reckoning", some "join")), fd_Reckoning_join := _, F_Reckoning_join := F24, h_Reckoning_join := ⟨a24, i24, k24⟩, b_Reckoning_join := F24.binds (ps := ["self", "a", "b"]) fun _ _ _ _ _ _ us hl => match us, hl with | [_, _, _], _ => rfl,
    f_Reckoning_times := (He.fAd K ("Reckoning", some "times")), fd_Reckoning_times := _, F_Reckoning_times := F25, h_Reckoning_times := ⟨a25, i25, k25⟩, b_Reckoning_times := F25.binds (ps := ["self", "a", "b"]) fun _ _ _ _ _ _ us hl => match us, hl with | [_, _, _], _ => rfl,
    f_Lengths_check := (He.fAd K ("Lengths", some "check")), fd_Lengths_check := _, F_Lengths_check := F26, h_Lengths_check := ⟨a26, i26, k26⟩, b_Lengths_check := F26.binds (ps := ["self", "worths"]) fun _ _ _ _ _ _ us hl => match us, hl with | [_, _], _ => rfl,
    f_Lengths_join := (He.fAd K ("Lengths", some "join")), fd_Lengths_join := _, F_Lengths_join := F27, h_Lengths_join := ⟨a27, i27, k27⟩, b_Lengths_join := F27.binds (ps := ["self", "a", "b"]) fun _ _ _ _ _ _ us hl => match us, hl with | [_, _, _], _ => rfl,
    f_Lengths_times := (He.fAd K ("Lengths", some "times")), fd_Lengths_times := _, F_Lengths_times := F28, h_Lengths_times := ⟨a28, i28, k28⟩, b_Lengths_times := F28.binds (ps := ["self", "a", "b"]) fun _ _ _ _ _ _ us hl => match us, hl with | [_, _, _], _ => rfl,
    f_as_ratio := (He.fAd K ("as_ratio", none)), fd_as_ratio := _, F_as_ratio := F29, g_as_ratio := PySem.W.mg_of X G a29, b_as_ratio := F29.binds (ps := ["value"]) fun _ _ _ _ _ _ us hl => match us, hl with | [_], _ => rfl,
    f_Ratio_add := (He.fAd K ("Ratio", some "__add__")), fd_Ratio_add := _, F_Ratio_add := F30, h_Ratio_add := ⟨a30, i30, k30⟩, b_Ratio_add := F30.binds (ps := ["self", "other"]) fun _ _ _ _ _ _ us hl => match us, hl with | [_, _], _ => rfl,
    f_Ratio_radd := (He.fAd K ("Ratio", some "__radd__")), fd_Ratio_radd := _, F_Ratio_radd := F31, h_Ratio_radd := ⟨a31, i31, k31⟩, b_Ratio_radd := F31.binds (ps := ["self", "other"]) fun _ _ _ _ _ _ us hl => match us, hl with | [_, _], _ => rfl,
    f_Ratio_mul := (He.fAd K ("Ratio", some "__mul__")), fd_Ratio_mul := _, F_Ratio_mul := F32, h_Ratio_mul := ⟨a32, i32, k32⟩, b_Ratio_mul := F32.binds (ps := ["self", "other"]) fun _ _ _ _ _ _ us hl => match us, hl with | [_, _], _ => rfl,
    f_Ratio_rmul := (He.fAd K ("Ratio", some "__rmul__")), fd_Ratio_rmul := _, F_Ratio_rmul := F33, h_Ratio_rmul := ⟨a33, i33, k33⟩, b_Ratio_rmul := F33.binds (ps := ["self", "other"]) fun _ _ _ _ _ _ us hl => match us, hl with | [_, _], _ => rfl,
    f_Ratio_eq := (He.fAd K ("Ratio", some "__eq__")), fd_Ratio_eq := _, F_Ratio_eq := F34, h_Ratio_eq := ⟨a34, i34, k34⟩, b_Ratio_eq := F34.binds (ps := ["self", "other"]) fun _ _ _ _ _ _ us hl => match us, hl with | [_, _], _ => rfl,
    f_Numbers_check := (He.fAd K ("Numbers", some "check")), fd_Numbers_check := _, F_Numbers_check := F35, h_Numbers_check := ⟨a35, i35, k35⟩, b_Numbers_check := F35.binds (ps := ["self", "worths"]) fun _ _ _ _ _ _ us hl => match us, hl with | [_, _], _ => rfl,
    f_Numbers_join := (He.fAd K ("Numbers", some "join")), fd_Numbers_join := _, F_Numbers_join := F36, h_Numbers_join := ⟨a36, i36, k36⟩, b_Numbers_join := F36.binds (ps := ["self", "a", "b"]) fun _ _ _ _ _ _ us hl => match us, hl with | [_, _, _], _ => rfl,
    f_Numbers_times := (He.fAd K ("Numbers", some "times")), fd_Numbers_times := _, F_Numbers_times := F37, h_Numbers_times := ⟨a37, i37, k37⟩, b_Numbers_times := F37.binds (ps := ["self", "a", "b"]) fun _ _ _ _ _ _ us hl => match us, hl with | [_, _, _], _ => rfl,
    f_is_letters := (He.fAd K ("is_letters", none)), fd_is_letters := _, F_is_letters := F38, g_is_letters := PySem.W.mg_of X G a38, b_is_letters := F38.binds (ps := ["value"]) fun _ _ _ _ _ _ us hl => match us, hl with | [_], _ => rfl,
    f_is_letter := (He.fAd K ("is_letter", none)), fd_is_letter := _, F_is_letter := F39, g_is_letter := PySem.W.mg_of X G a39, b_is_letter := F39.binds (ps := ["value"]) fun _ _ _ _ _ _ us hl => match us, hl with | [_], _ => rfl,
    f_is_name := (He.fAd K ("is_name", none)), fd_is_name := _, F_is_name := F40, g_is_name := PySem.W.mg_of X G a40, b_is_name := F40.binds (ps := ["value"]) fun _ _ _ _ _ _ us hl => match us, hl with | [_], _ => rfl,
    f_check_reckoning := (He.fAd K ("check_reckoning", none)), fd_check_reckoning := _, F_check_reckoning := F41, g_check_reckoning := PySem.W.mg_of X G a41, b_check_reckoning := F41.binds (ps := ["thing"]) fun _ _ _ _ _ _ us hl => match us, hl with | [_], _ => rfl,
    f_plain_worth := (He.fAd K ("plain_worth", none)), fd_plain_worth := _, F_plain_worth := F42, g_plain_worth := PySem.W.mg_of X G a42, b_plain_worth := F42.binds (ps := ["reckoning", "worth"]) fun _ _ _ _ _ _ us hl => match us, hl with | [_, _], _ => rfl,
    f_checked_places := (He.fAd K ("checked_places", none)), fd_checked_places := _, F_checked_places := F43, g_checked_places := PySem.W.mg_of X G a43, b_checked_places := F43.binds (ps := ["places"]) fun _ _ _ _ _ _ us hl => match us, hl with | [_], _ => rfl,
    f_is_road := (He.fAd K ("is_road", none)), fd_is_road := _, F_is_road := F44, g_is_road := PySem.W.mg_of X G a44, b_is_road := F44.binds (ps := ["reckoning", "places", "road"]) fun _ _ _ _ _ _ us hl => match us, hl with | [_, _, _], _ => rfl,
    f_checked_roads := (He.fAd K ("checked_roads", none)), fd_checked_roads := _, F_checked_roads := F45, g_checked_roads := PySem.W.mg_of X G a45, b_checked_roads := F45.binds (ps := ["reckoning", "places", "roads"]) fun _ _ _ _ _ _ us hl => match us, hl with | [_, _, _], _ => rfl,
    f_Web_init := (He.fAd K ("Web", some "__init__")), fd_Web_init := _, F_Web_init := F46, M_Web := ⟨mk5, a46, i46, kc5⟩, b_Web_init := F46.binds (ps := ["self", "reckoning", "places", "roads"]) fun _ _ _ _ _ _ us hl => match us, hl with | [_, _, _, _], _ => rfl,
    f_Web_worth := (He.fAd K ("Web", some "worth")), fd_Web_worth := _, F_Web_worth := F47, h_Web_worth := ⟨a47, i47, k47⟩, b_Web_worth := F47.binds (ps := ["self", "one", "letter", "other"]) fun _ _ _ _ _ _ us hl => match us, hl with | [_, _, _, _], _ => rfl,
    f_l_hand := (He.fAd K ("_law_hand", none)), fd_l_hand := _, F_l_hand := F48, g_l_hand := PySem.W.mg_of X G a48, b_l_hand := F48.binds (ps := ["_law_script"]) fun _ _ _ _ _ _ us hl => match us, hl with | [_], _ => rfl,
    f_l_draw := (He.fAd K ("_law_draw", none)), fd_l_draw := _, F_l_draw := F49, g_l_draw := PySem.W.mg_of X G a49, b_l_draw := F49.binds (ps := ["_law_hand_here", "_law_many"]) fun _ _ _ _ _ _ us hl => match us, hl with | [_, _], _ => rfl,
    f_l_chain := (He.fAd K ("_law_chain", none)), fd_l_chain := _, F_l_chain := F50, g_l_chain := PySem.W.mg_of X G a50, b_l_chain := F50.binds (ps := ["_law_products_here"]) fun _ _ _ _ _ _ us hl => match us, hl with | [_], _ => rfl,
    f_l_products := (He.fAd K ("_law_products", none)), fd_l_products := _, F_l_products := F51, g_l_products := PySem.W.mg_of X G a51, b_l_products := F51.binds (ps := ["_law_hand_here"]) fun _ _ _ _ _ _ us hl => match us, hl with | [_], _ => rfl,
    f_l_monoid := (He.fAd K ("_law_monoid", none)), fd_l_monoid := _, F_l_monoid := F52, g_l_monoid := PySem.W.mg_of X G a52, b_l_monoid := F52.binds (ps := ["_law_hand_here"]) fun _ _ _ _ _ _ us hl => match us, hl with | [_], _ => rfl,
    f_l_lot := (He.fAd K ("_law_lot", none)), fd_l_lot := _, F_l_lot := F53, g_l_lot := PySem.W.mg_of X G a53, b_l_lot := F53.binds (ps := ["_law_products_here", "_law_one_here", "_law_other"]) fun _ _ _ _ _ _ us hl => match us, hl with | [_, _, _], _ => rfl,
    f_l_lots := (He.fAd K ("_law_lots", none)), fd_l_lots := _, F_l_lots := F54, g_l_lots := PySem.W.mg_of X G a54, b_l_lots := F54.binds (ps := ["_law_products_here", "_law_one_here"]) fun _ _ _ _ _ _ us hl => match us, hl with | [_, _], _ => rfl,
    f_l_paired := (He.fAd K ("_law_paired", none)), fd_l_paired := _, F_l_paired := F55, g_l_paired := PySem.W.mg_of X G a55, b_l_paired := F55.binds (ps := ["_law_one_here", "_law_other"]) fun _ _ _ _ _ _ us hl => match us, hl with | [_, _], _ => rfl,
    f_l_beside := (He.fAd K ("_law_beside", none)), fd_l_beside := _, F_l_beside := F56, g_l_beside := PySem.W.mg_of X G a56, b_l_beside := F56.binds (ps := ["_law_one_here", "_law_other"]) fun _ _ _ _ _ _ us hl => match us, hl with | [_, _], _ => rfl,
    f_l_turned := (He.fAd K ("_law_turned", none)), fd_l_turned := _, F_l_turned := F57, g_l_turned := PySem.W.mg_of X G a57, b_l_turned := F57.binds (ps := ["_law_told"]) fun _ _ _ _ _ _ us hl => match us, hl with | [_], _ => rfl,
    f_l_order := (He.fAd K ("_law_order", none)), fd_l_order := _, F_l_order := F58, g_l_order := PySem.W.mg_of X G a58, b_l_order := F58.binds (ps := ["_law_hand_here", "_law_many"]) fun _ _ _ _ _ _ us hl => match us, hl with | [_, _], _ => rfl,
    f_l_renamed := (He.fAd K ("_law_renamed", none)), fd_l_renamed := _, F_l_renamed := F59, g_l_renamed := PySem.W.mg_of X G a59, b_l_renamed := F59.binds (ps := ["_law_told", "_law_order_here"]) fun _ _ _ _ _ _ us hl => match us, hl with | [_, _], _ => rfl,
    f_l_made := (He.fAd K ("_law_made", none)), fd_l_made := _, F_l_made := F60, g_l_made := PySem.W.mg_of X G a60, b_l_made := F60.binds (ps := ["_law_hand_here"]) fun _ _ _ _ _ _ us hl => match us, hl with | [_], _ => rfl,
    f_l_names := (He.fAd K ("_law_names", none)), fd_l_names := _, F_l_names := F61, g_l_names := PySem.W.mg_of X G a61, b_l_names := F61.binds (ps := ["_law_hand_here", "_law_many"]) fun _ _ _ _ _ _ us hl => match us, hl with | [_, _], _ => rfl,
    f_l_reckoning := (He.fAd K ("_law_reckoning", none)), fd_l_reckoning := _, F_l_reckoning := F62, g_l_reckoning := PySem.W.mg_of X G a62, b_l_reckoning := F62.binds (ps := ["_law_world_here"]) fun _ _ _ _ _ _ us hl => match us, hl with | [_], _ => rfl,
    f_l_none := (He.fAd K ("_law_none", none)), fd_l_none := _, F_l_none := F63, g_l_none := PySem.W.mg_of X G a63, b_l_none := F63.binds (ps := ["_law_world_here"]) fun _ _ _ _ _ _ us hl => match us, hl with | [_], _ => rfl,
    f_l_handed := (He.fAd K ("_law_handed", none)), fd_l_handed := _, F_l_handed := F64, g_l_handed := PySem.W.mg_of X G a64, b_l_handed := F64.binds (ps := ["_law_world_here", "_law_worth_here"]) fun _ _ _ _ _ _ us hl => match us, hl with | [_, _], _ => rfl,
    f_l_world := (He.fAd K ("_law_world", none)), fd_l_world := _, F_l_world := F65, g_l_world := PySem.W.mg_of X G a65, b_l_world := F65.binds (ps := ["_law_hand_here"]) fun _ _ _ _ _ _ us hl => match us, hl with | [_], _ => rfl,
    f_l_worth := (He.fAd K ("_law_worth", none)), fd_l_worth := _, F_l_worth := F66, g_l_worth := PySem.W.mg_of X G a66, b_l_worth := F66.binds (ps := ["_law_hand_here", "_law_world_here"]) fun _ _ _ _ _ _ us hl => match us, hl with | [_, _], _ => rfl,
    f_l_roads := (He.fAd K ("_law_roads", none)), fd_l_roads := _, F_l_roads := F67, g_l_roads := PySem.W.mg_of X G a67, b_l_roads := F67.binds (ps := ["_law_hand_here", "_law_world_here", "_law_many", "_law_letters"]) fun _ _ _ _ _ _ us hl => match us, hl with | [_, _, _, _], _ => rfl,
    f_l_web := (He.fAd K ("_law_web", none)), fd_l_web := _, F_l_web := F68, g_l_web := PySem.W.mg_of X G a68, b_l_web := F68.binds (ps := ["_law_world_here", "_law_names_here", "_law_roads_here"]) fun _ _ _ _ _ _ us hl => match us, hl with | [_, _, _], _ => rfl,
    f_l_is_worth := (He.fAd K ("_law_is_worth", none)), fd_l_is_worth := _, F_l_is_worth := F69, g_l_is_worth := PySem.W.mg_of X G a69, b_l_is_worth := F69.binds (ps := ["_law_world_here", "_law_told", "_law_due"]) fun _ _ _ _ _ _ us hl => match us, hl with | [_, _, _], _ => rfl,
    f_l_place := (He.fAd K ("_law_place", none)), fd_l_place := _, F_l_place := F70, g_l_place := PySem.W.mg_of X G a70, b_l_place := F70.binds (ps := ["_law_hand_here", "_law_names_here"]) fun _ _ _ _ _ _ us hl => match us, hl with | [_, _], _ => rfl,
    f_l_letter := (He.fAd K ("_law_letter", none)), fd_l_letter := _, F_l_letter := F71, g_l_letter := PySem.W.mg_of X G a71, b_l_letter := F71.binds (ps := ["_law_hand_here"]) fun _ _ _ _ _ _ us hl => match us, hl with | [_], _ => rfl,
    f_l_asked := (He.fAd K ("_law_asked", none)), fd_l_asked := _, F_l_asked := F72, g_l_asked := PySem.W.mg_of X G a72, b_l_asked := F72.binds (ps := ["_law_web_here", "_law_one_here", "_law_letter_here", "_law_other"]) fun _ _ _ _ _ _ us hl => match us, hl with | [_, _, _, _], _ => rfl,
    f_l_is_place := (He.fAd K ("_law_is_place", none)), fd_l_is_place := _, F_l_is_place := F73, g_l_is_place := PySem.W.mg_of X G a73, b_l_is_place := F73.binds (ps := ["_law_thing", "_law_names_here"]) fun _ _ _ _ _ _ us hl => match us, hl with | [_, _], _ => rfl,
    f_l_right := (He.fAd K ("_law_right", none)), fd_l_right := _, F_l_right := F74, g_l_right := PySem.W.mg_of X G a74, b_l_right := F74.binds (ps := ["_law_world_here", "_law_names_here", "_law_roads_here", "_law_one_here", "_law_letter_here", "_law_other", "_law_told"]) fun _ _ _ _ _ _ us hl => match us, hl with | [_, _, _, _, _, _, _], _ => rfl,
    f_law := (He.fAd K ("law", none)), fd_law := _, F_law := F75, g_law := PySem.W.mg_of X G a75, b_law := F75.binds (ps := ["_law_script"]) fun _ _ _ _ _ _ us hl => match us, hl with | [_], _ => rfl,
    n_isinstance := PySem.W.mg_none_of X G z0,
    n_int := PySem.W.mg_none_of X G z1,
    n_bool := PySem.W.mg_none_of X G z2,
    n_abs := PySem.W.mg_none_of X G z3,
    n_len := PySem.W.mg_none_of X G z4,
    n_all := PySem.W.mg_none_of X G z5,
    n_list := PySem.W.mg_none_of X G z6,
    n_tuple := PySem.W.mg_none_of X G z7,
    n_range := PySem.W.mg_none_of X G z8,
    n_min := PySem.W.mg_none_of X G z9,
    n_NotImplemented := PySem.W.mg_none_of X G z10,
    n_str := PySem.W.mg_none_of X G z11,
    n_enumerate := PySem.W.mg_none_of X G z12,
    n_max := PySem.W.mg_none_of X G z13,
    t_LEAST_SIZE := t0, m_LEAST_SIZE := y0,
    t_MOST_SIZE := t1, m_MOST_SIZE := y1,
    t_LETTERS := t2, m_LETTERS := y2,
    t_MOST_NAME := t3, m_MOST_NAME := y3,
    t_MOST_PLACES := t4, m_MOST_PLACES := y4,
    t_MOST_ROADS := t5, m_MOST_ROADS := y5 }
  exact ⟨_, fun s v => .of_eq rfl, fun base _ _ => ok_law T⟩
end W
open PySem PySem.W PyProof.Rows
set_option maxRecDepth 100000 in
set_option maxHeartbeats 0 in
theorem PySem.Challenge.cw_watchedways_k37_roads_asked_holds : PySem.Challenge.rw_watchedways_k37_roads_asked.Holds := by
  w_on; o_law
  refine HandSHeadRun.head_any (r := PySem.W.OpenLaw.row PySem.Challenge.rw_watchedways_k37_roads_asked) (q := W.hk_q) (H := W.hk_H) (ob := W.hk_ob) (M := 30000) (loose := W.hk_names) (d := HandSHeadRun.topDef (PySem.W.OpenLaw.row PySem.Challenge.rw_watchedways_k37_roads_asked).prog 120) (kwd := []) W.hk_ob_eq
    (by kernel_rfl) (fun s => by kernel_rfl) W.hk_run (by kernel_rfl) (by kernel_rfl) (by kernel_rfl) (by rfl) (by first | assumption | decide +kernel) (by decide +kernel) ⟨rfl, rfl, rfl, rfl, rfl, by decide +kernel⟩ ?hw ?hc
  case hw => w_witness2
  case hc =>
    refine L2.walk_ofE (l := PySem.Challenge.rw_watchedways_k37_roads_asked) (n := 63) (k := 12) (x := "_law_script") (CX := L2.CX0) rfl (by decide) (by kernel_rfl) ⟨rfl, by decide, by decide⟩ ?F (fun _ _ _ _ z => z)
    intro w mg fa h Y G hmg0
    obtain ⟨K, KX, c⟩ := Y
    have hmg : mg ("law" : PySem.Str) = some (.ref fa) := by
      have e : (HandSHeadRun.topDef (PySem.W.OpenLaw.row PySem.Challenge.rw_watchedways_k37_roads_asked).prog 120).name = ("law" : PySem.Str) := by kernel_rfl
      rw [← e]
      exact hmg0
    obtain ⟨fd, hb, hF⟩ := W.all_hk (l := PySem.Challenge.rw_watchedways_k37_roads_asked) KX G hmg c
    exact ⟨K, fd, W.sp_law K, KX, hb, fun H a ns hl _ hS => ⟨a, ns, rfl, hS, hl, fun _ => rfl⟩, hF⟩
