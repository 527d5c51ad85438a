import PyProof.Rows.All
import Wide.All
import OpenK.AllK
import Wide.FinOn
import HandS.ForMost
import HandS.SortInts
import HandS.Style
import HandS.IsInst
import HandS.Flow
import HandS.Conv
import HandS.Codes
import PyProof.Draws
import PyProof.EnumMake
import HandS.Walk
import HandS.Strs
import HandS.More
import HandS.Text
import HandS.Small
import HandS.SortKw
import KE.SortKeyed
import HandS.DictComp
import HandS.Zip
import HandS.Finally
import HandS.SetFor
import HandS.Exc
import HandS.ExcOwn
import HandS.ExcInit
import HandS.ExcIs
import HandS.TryOnly
import HandS.TryMany
import HandS.WordsExc
import HandS.Defaults
import HandS.CallSlots
import HandS.DeepEq
import PyProof.ReprRoads
import HandS.Ends
import HandS.List
import HandS.TupAny
import HandS.Wide
import PySem.Challenge.RW_watchedways_k08_zigzags_and_cuts_judged
set_option Elab.async false
set_option linter.all false
set_option maxRecDepth 100000
set_option maxHeartbeats 4000000
/-! Readings by their heads: one lemma a combinator, so that a reading is walked by its own shape. -/
namespace Rd
open PySem PySem.Spec PyProof.Rows L2
variable {X : Cx} {D : Ends} {σ : L2.St} {H : Hp} {K : PySem.W.Frag}
/-- a new object is laid -/
def NewQ (o : HO) (Q : VK) (H : Hp) : Prop := ∀ p, H p = none → Q (.ref p) (upd H p o)
theorem new {o : HO} {Q : VK} (h : ∀ (p : Addr) (G : Hp), H p = none → G p = some o → Same H G → Q (.ref p) G) : NewQ o Q H :=
  fun p hp => h p _ hp upd_same fun b u e => by rw [upd_ne (ne_of_none e hp)]; exact e
theorem seq {t u : TS} (h : t { D with nx := u D } σ H) : tSeq t u D σ H := h
theorem cut {t u : TS} (Mid : L2.St → Hp → Prop) (h : t { D with nx := Mid } σ H) (h2 : ∀ σ' H', Mid σ' H' → u D σ' H') : C8.tCut t u D σ H := ⟨Mid, h, h2⟩
theorem nxt (h : D.nx σ H) : tNext D σ H := h
theorem asg {te : TE} {g : TG} (h : te σ H fun x H1 => g x σ H1 D.nx) : tAsg te g D σ H := h
theorem name {i : Nat} {v : V} {Q : L2.St → Hp → Prop} (h : Q (σ.set i (some v)) H) : gName i v σ H Q := h
theorem ret {te : TE} (h : te σ H D.rt) : tRet te D σ H := h
theorem retN (h : D.rt .non H) : tRetN D σ H := h
theorem drop {te : TE} (h : te σ H fun _ H1 => D.nx σ H1) : tDrop te D σ H := h
theorem ifS {c : TT} {t u : TS} (h : c σ H fun b H1 => if b = true then t D σ H1 else u D σ H1) : tIfS c t u D σ H := h
theorem brk (h : D.bk σ H) : tBreak D σ H := h
theorem cont (h : D.ct σ H) : tCont D σ H := h
theorem var {i : Nat} {v : V} {Q : VK} (e : σ[i]? = some (some v)) (h : Q v H) : tVar i σ H Q := ⟨v, e, h⟩
theorem con {v : V} {Q : VK} (h : Q v H) : tC v σ H Q := h
theorem op {r : R2} {ta tb : TE} {Q : VK} (h : ta σ H fun x H1 => tb σ H1 fun y H2 => r x y H2 Q) : tOp r ta tb σ H Q := h
theorem un {r : V → Hp → VK → Prop} {ta : TE} {Q : VK} (h : ta σ H fun x H1 => r x H1 Q) : tUn r ta σ H Q := h
theorem test {t : TE} {Q : Bool → Hp → Prop} (h : t σ H fun x H' => ∃ k, x = .bl k ∧ Q k H') : tTest t σ H Q := h
theorem tstB {t : TE} {Q : Bool → Hp → Prop} (h : t σ H fun x H' => ∃ k, x = .bl k ∧ Q k H') : tB t σ H Q := h
theorem bl {k : Bool} {Q : Bool → Hp → Prop} (h : Q k H) : ∃ k', V.bl k = .bl k' ∧ Q k' H := ⟨k, rfl, h⟩
theorem and {t u : TT} {Q : Bool → Hp → Prop} (h : t σ H fun c H1 => if c = true then u σ H1 Q else Q false H1) : tAnd t u σ H Q := h
theorem or {t u : TT} {Q : Bool → Hp → Prop} (h : t σ H fun c H1 => if c = true then Q true H1 else u σ H1 Q) : tOr t u σ H Q := h
theorem not {t : TT} {Q : Bool → Hp → Prop} (h : t σ H fun c H1 => Q (!c) H1) : tNot t σ H Q := h
theorem andV {ta tb : TE} {Q : VK} (h : ta σ H fun x H1 => ∃ c, x = .bl c ∧ if c = true then tb σ H1 Q else Q (.bl false) H1) : tAndV ta tb σ H Q := h
theorem orV {ta tb : TE} {Q : VK} (h : ta σ H fun x H1 => ∃ c, x = .bl c ∧ if c = true then Q (.bl true) H1 else tb σ H1 Q) : tOrV ta tb σ H Q := h
theorem notV {ta : TE} {Q : VK} (h : ta σ H fun x H1 => ∃ c, x = .bl c ∧ Q (.bl (!c)) H1) : tNotV ta σ H Q := h
theorem ifE {t : TT} {ta tb : TE} {Q : VK} (h : t σ H fun c H1 => if c = true then ta σ H1 Q else tb σ H1 Q) : tIf t ta tb σ H Q := h
theorem nil {Q : List V → Hp → Prop} (h : Q [] H) : tNil σ H Q := h
theorem cons {ta : TE} {tr : TA} {Q : List V → Hp → Prop} (h : ta σ H fun x H1 => tr σ H1 fun xs H2 => Q (x :: xs) H2) : tCons ta tr σ H Q := h
theorem tup {t : TA} {Q : VK} (h : t σ H fun xs H1 => xs.length ≤ sizeLine ∧ NewQ (.tup xs) Q H1) : tTup t σ H Q := h
theorem lst {t : TA} {Q : VK} (h : t σ H fun xs H1 => xs.length ≤ sizeLine ∧ NewQ (.lst xs) Q H1) : tLst t σ H Q := h
theorem cb {r : List V → Hp → VK → Prop} {t : TA} {Q : VK} (h : t σ H fun vs H1 => r vs H1 Q) : tCB r t σ H Q := h
theorem call {sp : Sp} {dvs : List V} {E : XK} {t : TA} {Q : VK} (h : t σ H fun vs H1 => sp (vs ++ dvs) H1 Q E) : tCall sp dvs E t σ H Q := h
theorem chain {r r' : R2} {ta tb tc : TE} {Q : VK} (h : ta σ H fun x H1 => tb σ H1 fun y H2 => r x y H2 fun z H3 => ∃ k, z = .bl k ∧ (if k = true then tc σ H3 fun w' H4 => r' y w' H4 Q else Q (.bl false) H3)) : tChain r r' ta tb tc σ H Q := h
theorem blE {k : Bool} {P : Bool → Prop} (h : P k) : ∃ k', V.bl k = .bl k' ∧ P k' := ⟨k, rfl, h⟩
theorem i0 {g : Int → Int → V} {i j : Int} {Q : VK} (h : Q (g i j) H) : rI0 g (.int i) (.int j) H Q := ⟨i, j, rfl, rfl, h⟩
theorem iC {C : Int → Int → Prop} {g : Int → Int → V} {i j : Int} {Q : VK} (c : C i j) (h : Q (g i j) H) : rI C g (.int i) (.int j) H Q := ⟨i, j, rfl, rfl, c, h⟩
theorem u1 {g : Int → V} {i : Int} {Q : VK} (h : Q (g i) H) : rU g (.int i) H Q := ⟨i, rfl, h⟩
theorem eqI {i j : Int} {Q : VK} (h : Q (.bl (decide (i = j))) H) : rEq (.int i) (.int j) H Q := ⟨rfl, by rw [show decide (V.int i = V.int j) = decide (i = j) by simp]; exact h⟩
theorem neI {i j : Int} {Q : VK} (h : Q (.bl (!decide (i = j))) H) : rNe (.int i) (.int j) H Q := ⟨rfl, by rw [show decide (V.int i = V.int j) = decide (i = j) by simp]; exact h⟩
theorem eqB {i j : Bool} {Q : VK} (h : Q (.bl (i == j)) H) : rEq (.bl i) (.bl j) H Q := ⟨rfl, by rw [dec_bl]; exact h⟩
theorem neB {i j : Bool} {Q : VK} (h : Q (.bl (i != j)) H) : rNe (.bl i) (.bl j) H Q := ⟨rfl, by rw [dec_bl]; exact h⟩
theorem eqS {i j : Str} {Q : VK} (h : Q (.bl (decide (i = j))) H) : rEq (.str i) (.str j) H Q := ⟨rfl, by rw [show decide (V.str i = V.str j) = decide (i = j) by simp]; exact h⟩
theorem neS {i j : Str} {Q : VK} (h : Q (.bl (!decide (i = j))) H) : rNe (.str i) (.str j) H Q := ⟨rfl, by rw [show decide (V.str i = V.str j) = decide (i = j) by simp]; exact h⟩
theorem iteb {c A B : Prop} [Decidable c] (h : if c then A else B) : if decide c = true then A else B := by
  by_cases q : c
  · rw [if_pos q] at h; rw [if_pos (decide_eq_true q)]; exact h
  · rw [if_neg q] at h; rw [if_neg (by simpa using q)]; exact h
theorem iten {c A B : Prop} [Decidable c] (h : if c then B else A) : if (!decide c) = true then A else B := by
  by_cases q : c
  · rw [if_pos q] at h; rw [if_neg (by simpa using q)]; exact h
  · rw [if_neg q] at h; rw [if_pos (by simpa using q)]; exact h
theorem itbn {b : Bool} {A B : Prop} (h : if b = true then B else A) : if (!b) = true then A else B := by
  cases b with
  | true => rw [if_neg (by decide)]; rw [if_pos rfl] at h; exact h
  | false => rw [if_pos (by rfl : (!false) = true)]; rw [if_neg (by decide)] at h; exact h
theorem a1 {a : Int} {P : Int → Prop} (h : P a) : ∃ i, [V.int a] = [V.int i] ∧ P i := ⟨a, rfl, h⟩
theorem a2 {a b : Int} {P : Int → Int → Prop} (h : P a b) : ∃ i j, [V.int a, V.int b] = [V.int i, V.int j] ∧ P i j := ⟨a, b, rfl, h⟩
theorem v2 {a b : V} {P : V → V → Prop} (h : P a b) : ∃ i j, [a, b] = [i, j] ∧ P i j := ⟨a, b, rfl, h⟩
theorem int1 {a : Int} {P : Int → Prop} {R : Prop} (h : P a) : (∃ i, [V.int a] = [V.int i] ∧ P i) ∨ R := .inl ⟨a, rfl, h⟩
theorem par {i j : Nat} {ta : TA} (h : ta σ H fun vs H1 => ∃ v w, vs = [v, w] ∧ D.nx ((σ.set i (some v)).set j (some w)) H1) : tPar i j ta D σ H := h
theorem sub {to ti : TE} {t : TSet} {v : V} {Q : L2.St → Hp → Prop} (h : to σ H fun o H1 => ti σ H1 fun i H2 => t o i v H2 fun H3 => Q σ H3) : gSub to ti t v σ H Q := h
theorem forS {wi : TI} {g : TG} {tb : TS} (h : wi σ H fun J H1 => ∃ W : Nat → Nat → L2.St → Hp → Prop, (∃ m, W 0 m σ H1) ∧ ∀ i m σ H, W i m σ H →
  (J.stop i H ∧ D.nx σ H) ∨ (J.go i H ∧ ∃ N : L2.St → Hp → Prop, (∀ σ' H', N σ' H' → ∃ m', m' < m ∧ W (i + 1) m' σ' H') ∧ ∀ x H', J.yld i H x H' → g x σ H' fun σ2 H2 => tb { D with nx := N, ct := N, bk := D.nx } σ2 H2)) : tFor wi g tb D σ H := h
theorem iter {tl : TE} {R : It → Hp → Prop} (h : tl σ H fun x H1 => ∃ a, x = .ref a ∧ (∃ xs, SqL K H1 a xs) ∧ R (Itl K a) H1) : iList K tl σ H R := h
theorem iterT {tl : TE} {R : It → Hp → Prop} (h : tl σ H fun x H1 => ∃ a, x = .ref a ∧ (∃ xs, SqT K H1 a xs) ∧ R (Itt K a) H1) : iTup K tl σ H R := h
theorem rng1 {ta : TA} {R : It → Hp → Prop} (h : ta σ H fun vs H1 => ∃ j : Int, vs = [.int j] ∧ -(2 ^ 62) ≤ j ∧ j < 2 ^ 62 ∧ R (Itr 0 j.toNat) H1) : iRng1 ta σ H R := h
theorem refE {a : Addr} {P : Addr → Prop} (h : P a) : ∃ b, V.ref a = .ref b ∧ P b := ⟨a, rfl, h⟩
theorem aug {i : Nat} {te : TE} {ti : TIp} {x : V} (e : σ[i]? = some (some x)) (h : te σ H fun y H1 => ti x y H1 fun z H2 => D.nx (σ.set i (some z)) H2) : tAug i te ti D σ H := ⟨x, e, h⟩
theorem ipi {f : Int → Int → Int} {i j : Int} {Q : VK} (h : Q (.int (f i j)) H) : ipI f (.int i) (.int j) H Q := ⟨i, j, rfl, rfl, h⟩
theorem whl {c : TT} {tb : TS} (W : Nat → L2.St → Hp → Prop) (h0 : ∃ m, W m σ H) (hs : ∀ m σ H, W m σ H → c σ H fun b H1 => if b = true then ∃ N : L2.St → Hp → Prop, (∀ σ' H', N σ' H' → ∃ m', m' < m ∧ W m' σ' H') ∧ tb { D with nx := N, ct := N, bk := D.nx } σ H1 else D.nx σ H1) : tWhile c tb D σ H := ⟨W, h0, hs⟩
theorem whN {m : Nat} {W : Nat → L2.St → Hp → Prop} {P : (L2.St → Hp → Prop) → Prop} (h : P (fun σ' H' => ∃ m', m' < m ∧ W m' σ' H')) : ∃ N, (∀ σ' H', N σ' H' → ∃ m', m' < m ∧ W m' σ' H') ∧ P N := ⟨_, fun _ _ h => h, h⟩
/-- an item of a list at a place -/
theorem ixL {p : Addr} {xs : List V} {i : Int} {v : V} {Q : VK} (hp : SqL K H p xs) (e : atI xs i = some v) (h : Q v H) : rIxL K (.ref p) (.int i) H Q := ⟨p, xs, i, v, rfl, rfl, hp, e, h⟩
theorem ixT {p : Addr} {xs : List V} {i : Int} {v : V} {Q : VK} (hp : SqT K H p xs) (e : atI xs i = some v) (h : Q v H) : rIxT K (.ref p) (.int i) H Q := ⟨p, xs, i, v, rfl, rfl, hp, e, h⟩
theorem setL {p : Addr} {xs : List V} {k : Int} {j : Nat} {v : V} {Q : Hp → Prop} (hp : H p = some (.lst xs)) (e : ixN xs.length k = some j) (h : Q (upd H p (.lst (xs.set j v)))) : rSetL (.ref p) (.int k) v H Q := ⟨p, xs, k, j, rfl, rfl, hp, e, h⟩
/-- a store into a list: behind it a heap G of which this is known -/
theorem setG {p : Addr} {xs ys : List V} {k : Int} {j : Nat} {v : V} {Q : Hp → Prop} (hp : H p = some (.lst xs)) (e : ixN xs.length k = some j) (hy : xs.set j v = ys) (h : ∀ G : Hp, G p = some (.lst ys) → (∀ b, b ≠ p → G b = H b) → Q G) : rSetL (.ref p) (.int k) v H Q :=
  ⟨p, xs, k, j, rfl, rfl, hp, e, hy ▸ h _ upd_same fun b hb => upd_ne hb⟩
/-! ### calls of built-ins and methods, by name -/
def nLen (K : PySem.W.Frag) : List V → Hp → VK → Prop := fun xs H Q => ∃ p ys, xs = [.ref p] ∧ (SqL K H p ys ∨ SqT K H p ys) ∧ Q (.int ys.length) H
theorem c_len : CallR X (.builtin "len") (nLen X.K) := call_len_seq
theorem len {p : Addr} {ys : List V} {Q : VK} (hp : SqL K H p ys ∨ SqT K H p ys) (h : Q (.int ys.length) H) : nLen K [.ref p] H Q := ⟨p, ys, rfl, hp, h⟩
def nLenS : List V → Hp → VK → Prop := fun xs H Q => ∃ z : Str, xs = [.str z] ∧ z.length ≤ sizeLine ∧ Q (.int z.length) H
theorem c_lenS : CallR X (.builtin "len") nLenS := call_len_str
theorem lenStr {z : Str} {Q : VK} (hz : z.length ≤ sizeLine) (h : Q (.int z.length) H) : nLenS [.str z] H Q := ⟨z, rfl, hz, h⟩
def nListOf (K : PySem.W.Frag) : List V → Hp → VK → Prop := fun xs H Q => ∃ p ys, xs = [.ref p] ∧ (SqL K H p ys ∨ SqT K H p ys) ∧ NewQ (.lst ys) Q H
theorem c_listOf : CallR X (.type "list") (nListOf X.K) := call_list_of
theorem listOf {p : Addr} {ys : List V} {Q : VK} (hp : SqL K H p ys ∨ SqT K H p ys) (h : NewQ (.lst ys) Q H) : nListOf K [.ref p] H Q := ⟨p, ys, rfl, hp, h⟩
def nTupOf (K : PySem.W.Frag) : List V → Hp → VK → Prop := fun xs H Q => ∃ p ys, xs = [.ref p] ∧ ((SqL K H p ys ∧ NewQ (.tup ys) Q H) ∨ (SqT K H p ys ∧ Q (.ref p) H))
theorem c_tupOf : CallR X (.type "tuple") (nTupOf X.K) := call_tuple_of
theorem tupOf {p : Addr} {ys : List V} {Q : VK} (hp : SqL K H p ys) (h : NewQ (.tup ys) Q H) : nTupOf K [.ref p] H Q := ⟨p, ys, rfl, .inl ⟨hp, h⟩⟩
def nInt : List V → Hp → VK → Prop := fun xs H Q => (∃ i, xs = [.int i] ∧ Q (.int i) H) ∨ ∃ k, xs = [.bl k] ∧ Q (.int (if k then 1 else 0)) H
theorem c_int : CallR X (.type "int") nInt := call_int1
theorem int {i : Int} {Q : VK} (h : Q (.int i) H) : nInt [.int i] H Q := .inl ⟨i, rfl, h⟩
theorem intB {k : Bool} {Q : VK} (h : Q (.int (if k then 1 else 0)) H) : nInt [.bl k] H Q := .inr ⟨k, rfl, h⟩
def nAbs : List V → Hp → VK → Prop := fun xs H Q => ∃ i, xs = [.int i] ∧ Q (.int (if i < 0 then -i else i)) H
theorem c_abs : CallR X (.builtin "abs") nAbs := call_abs
theorem abs {i : Int} {Q : VK} (h : Q (.int (i.natAbs : Int)) H) : nAbs [.int i] H Q := ⟨i, rfl, by rw [show (if i < 0 then -i else i) = (i.natAbs : Int) by split <;> omega]; exact h⟩
def nMax2 : List V → Hp → VK → Prop := fun xs H Q => ∃ i j, xs = [.int i, .int j] ∧ Q (.int (if j > i then j else i)) H
theorem c_max2 (hc : X.calm = true) : CallR X (.builtin "max") nMax2 := call_max2 hc
theorem max2 {i j : Int} {Q : VK} (h : Q (.int (max i j)) H) : nMax2 [.int i, .int j] H Q := ⟨i, j, rfl, by rw [show (if j > i then j else i) = max i j by rw [Int.max_def]; split <;> split <;> omega]; exact h⟩
def nMin2 : List V → Hp → VK → Prop := fun xs H Q => ∃ i j, xs = [.int i, .int j] ∧ Q (.int (if j < i then j else i)) H
theorem c_min2 (hc : X.calm = true) : CallR X (.builtin "min") nMin2 := call_min2 hc
theorem min2 {i j : Int} {Q : VK} (h : Q (.int (min i j)) H) : nMin2 [.int i, .int j] H Q := ⟨i, j, rfl, by rw [show (if j < i then j else i) = min i j by rw [Int.min_def]; split <;> split <;> omega]; exact h⟩
theorem bm {T : String} {r : V → List V → Hp → VK → Prop} {to : TE} {t : TA} {Q : VK} (h : to σ H fun x H1 => tyV K T x H1 ∧ t σ H1 fun xs H2 => r x xs H2 Q) : tBM K T r to t σ H Q := h
theorem bm0 {T : String} {r : V → List V → Hp → VK → Prop} {to : TE} {Q : VK} (h : to σ H fun x H1 => tyV K T x H1 ∧ r x [] H1 Q) : tBM0 K T r to σ H Q := h
theorem tyL {a : Addr} {xs : List V} {R : Prop} (h : SqL K H a xs) (r : R) : tyV K "list" (.ref a) H ∧ R := ⟨.inl ⟨rfl, _, h⟩, r⟩
theorem app {l : Addr} {xs : List V} {y : V} {Q : VK} (hp : H l = some (.lst xs)) (hz : xs.length < sizeLine) (h : ∀ G : Hp, G l = some (.lst (xs ++ [y])) → (∀ b, b ≠ l → G b = H b) → Q .non G) : rAppend (.ref l) [y] H Q :=
  ⟨l, xs, y, rfl, rfl, hp, hz, h _ upd_same fun b hb => upd_ne hb⟩
theorem popAt {l : Addr} {xs : List V} {i : Int} {y : V} {Q : VK} (hp : H l = some (.lst xs)) (h0 : 0 ≤ i) (h1 : i < xs.length) (hz : xs.length < 2 ^ 63) (hy : xs[i.toNat]? = some y) (h : ∀ G : Hp, G l = some (.lst (xs.eraseIdx i.toNat)) → (∀ b, b ≠ l → G b = H b) → Q y G) : rPopAt (.ref l) [.int i] H Q :=
  ⟨l, xs, i, i.toNat, y, rfl, rfl, hp, by omega, by omega, by unfold seqIndex?; rw [if_pos (by simp; omega)] <;> simp <;> omega, hy, h _ upd_same fun b hb => upd_ne hb⟩
theorem sl {r : V → Option Int → Option Int → Hp → VK → Prop} {te : TE} {tl th : TO} {Q : VK} (h : te σ H fun x H1 => tl σ H1 fun l H2 => th σ H2 fun u H3 => r x l u H3 Q) : tSl r te tl th σ H Q := h
theorem slL {a : Addr} {xs : List V} {lo hi : Option Int} {Q : VK} (hp : SqL K H a xs) (h : NewQ (.lst (cutV xs lo hi)) Q H) : rSlL K (.ref a) lo hi H Q := ⟨a, xs, rfl, hp, h⟩
theorem slS {z : Str} {lo hi : Option Int} {Q : VK} (hz : z.length ≤ sizeLine) (h : Q (.str (cutS z lo hi)) H) : rSlS (.str z) lo hi H Q := ⟨z, rfl, hz, h⟩
theorem cat {l b : Addr} {xs zs : List V} {Q : VK} (h1 : H l = some (.lst xs)) (h2 : H b = some (.lst zs)) (hz : xs.length + zs.length ≤ sizeLine) (h : NewQ (.lst (xs ++ zs)) Q H) : rCat (.ref l) (.ref b) H Q := ⟨l, b, xs, zs, rfl, rfl, h1, h2, hz, h⟩
theorem rep {l : Addr} {xs : List V} {k : Int} {Q : VK} (h1 : H l = some (.lst xs)) (h0 : -(2 ^ 63) ≤ k) (hk : k < 2 ^ 63) (hz : xs.length * k.toNat ≤ sizeLine) (h : NewQ (.lst (List.replicate k.toNat xs).flatten) Q H) : rRep (.ref l) (.int k) H Q := ⟨l, k, xs, rfl, rfl, h1, h0, hk, hz, h⟩
theorem revL {te : TE} {Q : VK} (h : te σ H fun x H1 => ∃ a xs, x = .ref a ∧ SqL K H1 a xs ∧ NewQ (.lst xs.reverse) Q H1) : tRevL K te σ H Q := h
theorem refX {a : Addr} {xs : List V} {P : List V → Prop} (h : SqL K H a xs) (q : P xs) : ∃ b ys, V.ref a = .ref b ∧ SqL K H b ys ∧ P ys := ⟨a, xs, rfl, h, q⟩
theorem sum {a : Addr} {ns : List Int} {Q : VK} (hp : SqL K H a (ns.map V.int)) (h : Q (.int ns.sum) H) : rSum K [.ref a] H Q := ⟨a, ns, rfl, hp, h⟩
theorem all {a : Addr} {bs : List Bool} {Q : VK} (hp : SqL K H a (bs.map V.bl)) (h : Q (.bl (bs.all id)) H) : rAll K [.ref a] H Q := ⟨a, bs, rfl, hp, h⟩
theorem any {a : Addr} {bs : List Bool} {Q : VK} (hp : SqL K H a (bs.map V.bl)) (h : Q (.bl (bs.any id)) H) : rAny K [.ref a] H Q := ⟨a, bs, rfl, hp, h⟩
theorem sortedI {a : Addr} {ns : List Int} {Q : VK} (hp : SqL K H a (ns.map V.int)) (h : ∀ (ms : List Int) (p : Addr) (G : Hp), ms.Perm ns → ms.Pairwise (· ≤ ·) → G p = some (.lst (ms.map V.int)) → Same H G → H p = none → Q (.ref p) G) : rSortedI K [.ref a] H Q :=
  ⟨a, ns, rfl, hp, fun ms p h1 h2 h3 => h ms p _ h1 h2 upd_same (fun b u e => by rw [upd_ne (ne_of_none e h3)]; exact e) h3⟩
theorem inS {neg : Bool} {x : V} {p : Addr} {xs : List V} {Q : VK} (hp : SqL K H p xs ∨ SqT K H p xs) (h1 : flatV x = true) (h2 : xs.all flatV = true) (h : Q (.bl (if neg then !inV x xs else inV x xs)) H) : rIn K neg x (.ref p) H Q := ⟨p, xs, rfl, hp, h1, h2, h⟩
theorem part {te : TE} {Q : Option Int → Hp → Prop} (h : te σ H fun x H1 => ∃ i, x = .int i ∧ Q (some i) H1) : tPart te σ H Q := h
theorem noPart {Q : Option Int → Hp → Prop} (h : Q none H) : tNoPart σ H Q := h
theorem poS {te : TE} {Q : Option Int → Hp → Prop} {i : Int} (h : te σ H fun x H1 => ∃ i, x = .int i ∧ Q (some i) H1) : te σ H fun x H1 => ∃ i, x = .int i ∧ Q (some i) H1 := h
theorem tupT {a : Addr} {xs : List V} {n : Nat} {t : TGs} {Q : L2.St → Hp → Prop} (hp : SqT K H a xs) (hn : xs.length = n) (h : t xs σ H Q) : gTup K n t (.ref a) σ H Q := ⟨a, xs, rfl, hp, hn, h⟩
theorem gcons {t : TG} {u : TGs} {v : V} {r : List V} {Q : L2.St → Hp → Prop} (h : t v σ H fun σ' H' => u r σ' H' Q) : gCons t u (v :: r) σ H Q := ⟨v, r, rfl, h⟩
theorem gnil {Q : L2.St → Hp → Prop} (h : Q σ H) : gNil [] σ H Q := ⟨rfl, h⟩
theorem last2 {ms : List Int} (h : 2 ≤ ms.length) : ∃ s b a, ms = s ++ [b, a] := by
  rcases List.eq_nil_or_concat ms with e | ⟨t, a, e⟩
  · subst e; simp at h
  · rcases List.eq_nil_or_concat t with e2 | ⟨s, b, e2⟩
    · subst e2; subst e; simp at h
    · exact ⟨s, b, a, by rw [e, e2]; simp⟩
theorem cut_last2 (s : List Int) (b a : Int) : cutV ((s ++ [b, a]).map V.int) (some (-2)) none = [b, a].map V.int := by
  have e : HT.sIx ((s ++ [b, a]).map V.int).length 0 (some (-2)) = (s.map V.int).length := by
    unfold HT.sIx
    simp
    omega
  have e2 : HT.sIx ((s ++ [b, a]).map V.int).length ((s ++ [b, a]).map V.int).length none = ((s ++ [b, a]).map V.int).length := rfl
  unfold cutV
  rw [e, e2, List.map_append, List.drop_left, List.length_append]
  exact List.take_of_length_le (by simp)
theorem rep_map (k : Nat) (b : Bool) : (List.replicate k [V.bl b]).flatten = (List.replicate k b).map V.bl := by
  induction k with
  | zero => rfl
  | succ k ih => rw [List.replicate_succ, List.flatten_cons, ih, List.replicate_succ]; rfl
theorem map_set {α β : Type} (f : α → β) (l : List α) (i : Nat) (x : α) : (l.map f).set i (f x) = (l.set i x).map f := by rw [List.map_set]
theorem enx {a b c : L2.St → Hp → Prop} {r : VK} (h : a σ H) : (Ends.mk a r b c).nx σ H := h
theorem ebk {a b c : L2.St → Hp → Prop} {r : VK} (h : b σ H) : (Ends.mk a r b c).bk σ H := h
theorem ect {a b c : L2.St → Hp → Prop} {r : VK} (h : c σ H) : (Ends.mk a r b c).ct σ H := h
theorem ert {a b c : L2.St → Hp → Prop} {r : VK} {v : V} (h : r v H) : (Ends.mk a r b c).rt v H := h
theorem intE {i : Int} {P : Int → Prop} (h : P i) : ∃ j, V.int i = .int j ∧ P j := ⟨i, rfl, h⟩
theorem atI_of {α : Type} {xs : List α} {i : Int} {v : α} (h0 : 0 ≤ i) (e : xs[i.toNat]? = some v) : atI xs i = some v := by
  have h := atI_nat e
  rw [show ((i.toNat : Nat) : Int) = i by omega] at h
  exact h
theorem ixN_of {n : Nat} {i : Int} (h0 : 0 ≤ i) (h1 : i < n) : ixN n i = some i.toNat := by
  unfold ixN
  rw [if_pos h0, if_pos h1]
theorem map_int {ns : List Int} {i : Nat} (h : i < ns.length) : (ns.map V.int)[i]? = some (.int ns[i]) := by simp [h]
theorem map_get {ns : List Int} {i : Nat} {x : V} (h : (ns.map V.int)[i]? = some x) : ∃ n, ns[i]? = some n ∧ x = .int n := by
  rw [List.getElem?_map] at h
  cases e : ns[i]? with
  | none => rw [e] at h; cases h
  | some z => rw [e] at h; exact ⟨z, rfl, (Option.some.inj h).symm⟩
theorem take_snoc {α : Type} {l : List α} {i : Nat} {x : α} (h : l[i]? = some x) : l.take (i + 1) = l.take i ++ [x] := by
  rw [List.take_succ, h]
  rfl
theorem upd_at {a : Addr} {o : HO} {b : Addr} (h : b = a) : upd H a o b = some o := by subst h; exact upd_same
/-- all but what stands at a is kept -/
def But (a : Addr) (H H' : Hp) : Prop := ∀ b o, b ≠ a → H b = some o → H' b = some o
theorem But.refl (a : Addr) (H : Hp) : But a H H := fun _ _ _ e => e
theorem But.trans {a : Addr} {H H1 H2 : Hp} (x : But a H H1) (y : But a H1 H2) : But a H H2 := fun b o n e => y b o n (x b o n e)
theorem But.same {a : Addr} {H H1 H2 : Hp} (x : But a H H1) (y : Same H1 H2) : But a H H2 := fun b o n e => y b o (x b o n e)
theorem But.of {a : Addr} {H H1 : Hp} (y : Same H H1) : But a H H1 := fun b o _ e => y b o e
theorem But.free {a : Addr} {H H1 : Hp} (x : But a H H1) {l : Addr} (n : l ≠ a) (h : H1 l = none) : H l = none := by
  cases q : H l with
  | none => rfl
  | some o =>
    have := x l o n q
    rw [h] at this
    cases this
theorem But.upd {a : Addr} {H H1 : Hp} {o : HO} (x : But a H H1) : But a H (upd H1 a o) := fun b u n e => by rw [upd_ne n]; exact x b u n e
theorem same_upd {H : Hp} {p : Addr} {o : HO} (h : H p = none) : Same H (upd H p o) := fun b u e => by rw [upd_ne (ne_of_none e h)]; exact e
end Rd

/-! Further rules: enumerate and sorted of a tuple; one of two ways to walk. -/
namespace Ru
open PySem PyProof.Rows
open PySem.AutoSeq1 (wpAny_loadPart')
section
variable {prog : Program} {w : World} {A : Around} {E : Value → Shared → Prop} {s : Shared}
theorem nextOf_tup {it t : Addr} {i : Nat} {items : Array Value} {x : Value} {Q : Value → Shared → Prop} (hit : s.heap.IsTupleIter it t i) (ht : s.heap.IsTuple t items) (hx : items[i]? = some x)
    (hQ : ∀ h', h'.IsTupleIter it t (i + 1) → Heap.SameBut it s.heap h' → Q x { s with heap := h' }) : wpAny (model prog w) A (Builtin.SmallTypes.nextOf (.ref it)) Q E s := by
  obtain ⟨oi, hoi, hci, hdi⟩ := id hit
  obtain ⟨ot, hot, _, nt, hdt⟩ := ht
  unfold Builtin.SmallTypes.nextOf
  refine wpAny_bind (wpAny_callSpecial?_slot (name := Str.ofString "__next__") hit.typeIs F.slot_tuple_iterator_next (wpAny_call_entry F.slot_tuple_iterator_next hit.typeIs F.entry_tuple_iterator_next ?_ (F.args_tuple_iterator_next_1 _)))
  show wpAny _ _ (field (.ref it) 0 >>= _) _ _ s
  refine wpAny_bind (wpAny_field hoi hdi (x := .ref t) rfl ?_)
  show wpAny _ _ (if (Value.ref t == Value.none) = true then _ else _) _ _ s
  rw [if_neg (show ¬ ((Value.ref t == Value.none) = true) from Bool.false_ne_true)]
  show wpAny _ _ (field (.ref it) 1 >>= _) _ _ s
  refine wpAny_bind (wpAny_field hoi hdi (x := .int i 0) rfl ?_)
  show wpAny _ _ (seqItems? (.ref t) >>= _) _ _ s
  refine wpAny_bind (wpAny_seqItems hot hdt ?_)
  simp only [Int.toNat_natCast, hx]
  refine wpAny_bind (wpAny_setField hoi hdi (by simp) (wpAny_pure ⟨x, rfl, wpAny_pure (hQ _ ?_ (Heap.SameBut.update ..))⟩))
  exact ⟨_, Heap.get?_update_self _ hoi (Obj.isFreed_of_fields (Obj.data_mapFields hdi _)), (Obj.cls_mapFields ..).trans hci, by rw [Obj.data_mapFields hdi]; simp [rawInt]⟩
theorem nextOf_tup_end {it t : Addr} {i : Nat} {items : Array Value} {Q : Value → Shared → Prop} (hh : A.handled = none) (hit : s.heap.IsTupleIter it t i) (ht : s.heap.IsTuple t items) (hx : items[i]? = none)
    (hE : ∀ h' e, Heap.ExtBut it s.heap h' → (∃ o, h'.get? e = some o ∧ o.cls = .type "StopIteration") → E (.ref e) { s with heap := h' }) : wpAny (model prog w) A (Builtin.SmallTypes.nextOf (.ref it)) Q E s := by
  obtain ⟨oi, hoi, hci, hdi⟩ := id hit
  obtain ⟨ot, hot, _, nt, hdt⟩ := ht
  unfold Builtin.SmallTypes.nextOf
  refine wpAny_bind (wpAny_callSpecial?_slot (name := Str.ofString "__next__") hit.typeIs F.slot_tuple_iterator_next (wpAny_call_entry F.slot_tuple_iterator_next hit.typeIs F.entry_tuple_iterator_next ?_ (F.args_tuple_iterator_next_1 _)))
  show wpAny _ _ (field (.ref it) 0 >>= _) _ _ s
  refine wpAny_bind (wpAny_field hoi hdi (x := .ref t) rfl ?_)
  show wpAny _ _ (if (Value.ref t == Value.none) = true then _ else _) _ _ s
  rw [if_neg (show ¬ ((Value.ref t == Value.none) = true) from Bool.false_ne_true)]
  show wpAny _ _ (field (.ref it) 1 >>= _) _ _ s
  refine wpAny_bind (wpAny_field hoi hdi (x := .int i 0) rfl ?_)
  show wpAny _ _ (seqItems? (.ref t) >>= _) _ _ s
  refine wpAny_bind (wpAny_seqItems hot hdt ?_)
  simp only [Int.toNat_natCast, hx]
  refine wpAny_bind (wpAny_rule (wpAny_bind (wpAny_setField hoi hdi (by simp) ?_)))
  show wpAny _ _ (newExc (.type "StopIteration") [] >>= _) _ _ _
  refine wpAny_bind ?_
  simp only [newExc, newTuple]
  refine wpAny_bind (wpAny_newObj_type ?_ (by size_fits))
  refine wpAny_bind (m := firstArgMember _ _) (wpAny_of_eq (a := Value.none) (by first | rfl | (simp only [firstArgMember]; rfl)) ?_)
  refine wpAny_newObj_type ?_ (by size_fits)
  simp only [raiseNew]
  refine wpAny_bind (wpAny_handled ?_)
  first | rw [show A.in1.handled = none from hh] | rw [hh]
  refine wpAny_bind (wpAny_pure (wpAny_throw ?_))
  exact hE _ _ (((Heap.SameBut.update ..).extBut.push _).push _) ⟨_, Heap.get?_push_size _ rfl, rfl⟩
end
theorem draws_tup {prog : Program} {w : World} {A : Around} (hh : A.handled = none) (it t : Addr) (hne : t ≠ it) (items : Array Value) :
    Draws prog w A it [it, t] items.size (fun i v => items[i]? = some v) (fun i h => h.IsTupleIter it t i ∧ h.IsTuple t items) where
  live := fun _ _ st => let ⟨o, ho, _⟩ := st.1; ⟨o, ho⟩
  frame := fun _ _ _ st hk => ⟨let ⟨o, ho, r⟩ := st.1; ⟨o, hk it (by simp) o ho, r⟩, let ⟨o, ho, r⟩ := st.2; ⟨o, hk t (by simp) o ho, r⟩⟩
  item := fun i s Q E hi st hQ => by
    refine nextOf_tup st.1 st.2 (x := items[i]) (by simp [hi]) fun h' k1 k2 => ?_
    exact hQ _ h' s.toks (by simp [hi]) ⟨k1, st.2.extBut k2.extBut hne⟩ k2
  done := fun s Q E st hE => nextOf_tup_end hh st.1 st.2 (by simp) hE
theorem meets_enum_tup (l : Addr) (items : Array Value) (n : Nat) (dct : Option Addr) (sl : Array (Option Value)) :
    Meets (Builtin.«enumerate.__new__» ⟨[.type "enumerate", .ref l], []⟩) (fun _ R s => s.heap.get? l = some { cls := .type "tuple", dict := dct, data := .seq items n, slots := sl } ∧
      R (.ok (.ret (.ref (s.heap.push { cls := .type "tuple_iterator", data := .fields #[.ref l, .int 0 0] }).objs.size)))
        { s with heap := (s.heap.push { cls := .type "tuple_iterator", data := .fields #[.ref l, .int 0 0] }).push { cls := .type "enumerate", data := .fields #[.none, .bool false, .ref s.heap.objs.size, rawInt 0, .none, .none] } }) :=
  .of_wp fun prog w A R s h => by
    obtain ⟨hp, g, d, tk, os⟩ := s
    obtain ⟨hl, h⟩ := h
    have hsub := sub_enumerate
    have hL : Heap.IsTuple (Shared.heap ⟨hp, g, d, tk, os⟩) l items := ⟨_, hl, rfl, n, rfl⟩
    wp_walk using wpAny_loadPart' hl
    refine wpAny_stack_any fun st => wpAny_pure ?_
    split
    · rename_i c _ _ _ _ _
      cases (c == Value.type "enumerate")
      · wp_walk using wpAny_loadPart' hl, wpAny_pyIter_tuple hL
        exact ⟨_, rfl, h⟩
      · wp_walk using wpAny_loadPart' hl, wpAny_pyIter_tuple hL
        exact ⟨_, rfl, h⟩
    · wp_walk using wpAny_loadPart' hl, wpAny_pyIter_tuple hL
      exact ⟨_, rfl, h⟩
section
variable {prog : Program} {w : World} {A : Around} {E : Value → Shared → Prop} {s : Shared}
theorem call_enum_tup {l : Addr} {items : Array Value} {Q : Value → Shared → Prop} (hL : s.heap.IsTuple l items)
    (h : ∀ h', IsEnum h' (s.heap.objs.size + 1) s.heap.objs.size 0 .none → h'.IsTupleIter s.heap.objs.size l 0 → h'.objs.size = s.heap.objs.size + 2 → (∀ b o, s.heap.get? b = some o → h'.get? b = some o) → Q (.ref (s.heap.objs.size + 1)) { s with heap := h' }) :
    wpAny (model prog w) A (call (.type "enumerate") [.ref l]) Q E s := by
  obtain ⟨⟨c, dct, dt, sl⟩, hl, hc, n, hd⟩ := hL
  replace hc : c = .type "tuple" := hc
  replace hd : dt = .seq items n := hd
  subst hc hd
  refine callType_new F.called_enumerate (by decide) (F.typeCall_enumerate_1 _) (F.newCall_enumerate_1 _) (fun obj => F.args_object_init_2 obj _) F.entry_enumerate_new (meets_enum_tup l items n dct sl) ⟨hl, ?_⟩
  have hz : (s.heap.push { cls := .type "tuple_iterator", data := .fields #[.ref l, .int 0 0] }).objs.size = s.heap.objs.size + 1 := Heap.size_push ..
  show _ ∧ _
  rw [hz]
  have he : IsEnum ((s.heap.push { cls := .type "tuple_iterator", data := .fields #[.ref l, .int 0 0] }).push { cls := .type "enumerate", data := .fields #[.none, .bool false, .ref s.heap.objs.size, rawInt 0, .none, .none] }) (s.heap.objs.size + 1) s.heap.objs.size 0 .none := by
    have q := Heap.get?_push_size (s.heap.push { cls := .type "tuple_iterator", data := .fields #[.ref l, .int 0 0] }) (o := { cls := .type "enumerate", data := .fields #[.none, .bool false, .ref s.heap.objs.size, rawInt 0, .none, .none] }) rfl
    rw [hz] at q
    exact q
  exact ⟨⟨_, he, rfl⟩, h _ he ⟨_, Heap.get?_push_of_some _ (Heap.get?_push_size _ rfl), rfl, rfl⟩ (by rw [Heap.size_push, hz]) fun b o x => Heap.get?_push_of_some _ (Heap.get?_push_of_some _ x)⟩
/-- a tuple is collected into a new list -/
theorem collect_tup {l : Addr} {vs : List Value} {Q : List Value → Shared → Prop} (hl : s.heap.IsTuple l vs.toArray) (hsz : vs.length ≤ sizeLine)
    (h : Q vs { s with heap := (s.heap.push (seqObj "list" #[] 0)).update s.heap.objs.size (Obj.mapSeq (· ++ vs.toArray)) }) : wpAny (model prog w) A (collect (.ref l)) Q E s := by
  obtain ⟨o, ho, hc, n, hd⟩ := id hl
  unfold collect
  refine wpAny_bind (wpAny_runValue (codeAny_builtin entry_proto_collect' ?_))
  show wpAny _ _ (do again (.builtin "list.__iadd__" ⟨[← newList [], .ref l], []⟩)) _ _ s
  refine wpAny_bind (wpAny_newList (wpAny_pure ⟨Code.quiet_builtin _ (by decide +kernel), codeAny_builtin entry_list_iadd' ?_⟩))
  show wpAny _ _ (Builtin.List.listExtendWith (.ref s.heap.objs.size) (.ref l) (.ref s.heap.objs.size)) _ _ { s with heap := s.heap.push (seqObj "list" #[] 0) }
  unfold Builtin.List.listExtendWith
  have ho' : (s.heap.push (seqObj "list" #[] 0)).get? l = some o := Heap.get?_push_of_some _ ho
  refine wpAny_bind (wpAny_typeOf (T := "tuple") ⟨o, ho', hc⟩ ?_)
  have ht : (Value.type "tuple" == Value.type "tuple") = true := by rfl
  rw [if_pos (by rw [ht]; simp)]
  refine wpAny_bind (listItems_at ho' hd ?_)
  refine wpAny_bind (listItems_at (xs := #[]) (n := 0) (Heap.get?_push_size _ rfl) rfl ?_)
  rw [if_neg (by simp)]
  refine wpAny_bind (listUpdate_at (xs := #[]) (n := 0) (Heap.get?_push_size _ rfl) rfl ?_ (Nat.zero_le _) (by show (#[] ++ vs.toArray).size ≤ sizeLine + 1; simp only [Array.size_append, List.size_toArray, List.length_nil]; omega))
  refine wpAny_pure ?_
  show wpAny (model prog w) A (do
      let o ← load s.heap.objs.size
      match o.data with
      | .seq xs _ => pure xs.toList
      | _ => unsupported "internal:collect") Q E { s with heap := (s.heap.push (seqObj "list" #[] 0)).update s.heap.objs.size (Obj.mapSeq (· ++ vs.toArray)) }
  refine wpAny_bind (wpAny_load (get?_update_seq (Heap.get?_push_size _ rfl) _) ?_)
  show wpAny _ _ (pure ((#[] : Array Value) ++ vs.toArray).toList) Q E _
  rw [show ((#[] : Array Value) ++ vs.toArray).toList = vs by simp]
  exact wpAny_pure h
end

section
variable {prog : Program} {w : World} {A : Around} {E : Value → Shared → Prop} {s : Shared}
open SrtO in
/-- sorted of a tuple: the new list stands at size + 1 -/
theorem sorted_tup {l : Addr} {vs : List Value} {ltv : Value → Value → Bool} {Q : Value → Shared → Prop} (O : Swo ltv) (hl : s.heap.IsTuple l vs.toArray) (hz : vs.length ≤ sizeLine)
    (hS : 2 ≤ vs.length → ∀ (g : Heap) (a : Addr), g.get? a = some (seqObj "list" vs.toArray 0) → (∀ b o, s.heap.get? b = some o → b ≠ a ∧ g.get? b = some o) → SortableO prog w A.in1.in1 { s with heap := g } a vs ltv)
    (h : ∀ out : List Value, Srtd ltv out → Stb ltv out vs → Q (.ref (s.heap.objs.size + 1)) { s with heap := sortedAll s.heap vs out.toArray }) : wpAny (model prog w) A (call (.builtin "sorted") [.ref l]) Q E s := by
  refine Calls.call_function_entry kind_sorted plain_sorted entry_sorted (args_sorted1 _) ?_
  unfold Builtin.«sorted»
  refine wpAny_bind (m := checkCount "sorted" 1 1 _) (wpAny_pure ?_)
  refine wpAny_bind (collect_tup hl hz ?_)
  refine wpAny_bind (wpAny_newList ?_ hz)
  have e1 : ((s.heap.push (seqObj "list" #[] 0)).update s.heap.objs.size (Obj.mapSeq (· ++ vs.toArray))).objs.size = s.heap.objs.size + 1 := by rw [Heap.size_update, size_push']
  have e2 : (((s.heap.push (seqObj "list" #[] 0)).update s.heap.objs.size (Obj.mapSeq (· ++ vs.toArray))).push (seqObj "list" vs.toArray 0)).get? (s.heap.objs.size + 1) = some (seqObj "list" vs.toArray 0) := by
    rw [← e1]
    exact Heap.get?_push_size _ rfl
  have e3 : ∀ b o, s.heap.get? b = some o → b ≠ s.heap.objs.size + 1 ∧ (((s.heap.push (seqObj "list" #[] 0)).update s.heap.objs.size (Obj.mapSeq (· ++ vs.toArray))).push (seqObj "list" vs.toArray 0)).get? b = some o := fun b o q => by
    have lt : b < s.heap.objs.size := Heap.lt_size q
    refine ⟨Nat.ne_of_lt (Nat.lt_succ_of_lt lt), Heap.get?_push_of_some _ ?_⟩
    rw [Heap.get?_update_ne _ _ _ _ (Nat.ne_of_lt lt)]
    exact Heap.get?_push_of_some _ q
  show wpAny _ _ _ _ _ { s with heap := ((s.heap.push (seqObj "list" #[] 0)).update s.heap.objs.size (Obj.mapSeq (· ++ vs.toArray))).push (seqObj "list" vs.toArray 0) }
  rw [e1]
  refine wpAny_bind (wpAny_holding (wpAny_call_entry slot_list_sort ⟨_, e2, rfl⟩ entry_list_sort (list_sort_ord O e2 hz (fun h2 => hS h2 _ _ e2 e3) fun out hs hb => ⟨_, rfl, ?_⟩) (args_list_sort _)))
  exact wpAny_pure ⟨_, rfl, h out hs hb⟩
end
end Ru
namespace Ru
open PySem PySem.Spec PyProof.Rows L2
/-- one of two ways to walk -/
theorem pi_or {X : Cx} {tg e : Expr} {t u : TI} (a : PI X tg e t) (b : PI X tg e u) : PI X tg e (fun σ H R => t σ H R ∨ u σ H R) := ⟨fun pins s σ H R I h => h.elim (a.run pins s σ H R I) (b.run pins s σ H R I)⟩
theorem callR_or {X : Cx} {f : Value} {r r' : List V → Hp → VK → Prop} (a : CallR X f r) (b : CallR X f r') : CallR X f (fun vs H Q => r vs H Q ∨ r' vs H Q) := fun pins s σ H vs us Q I rv h => h.elim (a pins s σ H vs us Q I rv) (b pins s σ H vs us Q I rv)
/-- sorted(t), t a tuple of ints -/
def rSortedTup (K : PySem.W.Frag) : List V → Hp → VK → Prop := fun vs H Q => ∃ (a : Addr) (ns : List Int), vs = [V.ref a] ∧ SqT K H a (ns.map V.int) ∧
  ∀ (ms : List Int) (p : Addr), ms.Perm ns → ms.Pairwise (· ≤ ·) → H p = none → Q (.ref p) (upd H p (.lst (ms.map V.int)))
theorem cr_sortedTup {X : Cx} : CallR X (.builtin "sorted") (rSortedTup X.K) := by
  intro pins s σ H vs us Q I r h
  obtain ⟨a, ns, rfl, hs, q⟩ := h
  obtain ⟨its, rv, hl, hz⟩ := I.tuple hs
  rw [Vals.ref1 r]
  have hi := rv.ints
  refine sorted_tup SrtO.swo_int (show s.heap.IsTuple a its.toArray from hl) (by rw [← rv.length]; exact hz) (fun h2 g b _ _ => SrtO.ints_sortable hi h2) fun out h1 h2 => ?_
  obtain ⟨k1, k2, k3⟩ := SrtO.ints_out hi h1 h2
  obtain ⟨ep, he⟩ := PyProof.Rows.sortedAll_at s.heap its out.toArray
  have ln : ((out.map SrtO.iv).map V.int).length ≤ sizeLine := by
    rw [List.length_map, k2.length_eq]
    rw [List.length_map] at hz
    exact hz
  exact ⟨.ref _, upd H (s.heap.objs.size + 1) (.lst ((out.map SrtO.iv).map V.int)), I.laid (t' := s.toks) (fun _ _ => PyProof.Rows.sortedAll_old) (Nat.le_succ _) ⟨ln, out, ep, vals_of_ints k1, he⟩, rfl, q _ _ k2 k3 (I.hok.fresh (Nat.le_succ _))⟩
/-- enumerate of a tuple: each item in a new pair -/
def IteT (K : PySem.W.Frag) (a : Addr) : It :=
  ⟨fun i H => ∃ (xs : List V) (x : V), SqT K H a xs ∧ xs[i]? = some x, fun i H v H' => ∃ T x, v = .ref T ∧ H T = none ∧ H' = upd H T (.tup [.int (i : Nat), x]) ∧ ∀ xs, SqT K H a xs → xs[i]? = some x, fun i H => ∃ xs : List V, SqT K H a xs ∧ xs.length = i⟩
theorem turn_enumT {P : Program} {w : World} {K : PySem.W.Frag} {elts : List Expr} {kk : Nat} {tpos : Pos} (a e it : Addr) :
    Turn P w K (.Tuple elts kk tpos) (IteT K a) [e, it] e (fun i h => (∃ old, IsEnum h e it ((i : Nat) : Int) old) ∧ h.IsTupleIter it a i ∧ e ≠ it) where
  mem := by simp
  obj := fun i h st b hb => by
    obtain ⟨⟨old, he⟩, ⟨o, ho, hc, hd⟩, _⟩ := st
    have z : b = e ∨ b = it := by simpa using hb
    rcases z with z | z
    · rw [z]; exact ⟨_, he, fun v q => nomatch q⟩
    · rw [z]; exact ⟨o, ho, fun v q => by rw [hd] at q; cases q⟩
  keep := fun i h h' st k => let ⟨⟨old, he⟩, ⟨o, ho, r⟩, hne⟩ := st; ⟨⟨old, k e (by simp) _ he⟩, ⟨o, k it (by simp) o ho, r⟩, hne⟩
  item := by
    intro X hP hw hK hc i pins s σ H E I hf st hg
    subst hP hw hK
    obtain ⟨⟨old, he⟩, hit, hne⟩ := st
    obtain ⟨xs, x, hq, hx⟩ := hg
    obtain ⟨its, rv, p, hz⟩ := I.tuple hq
    obtain ⟨u, hu, ru⟩ := rv.get hx
    have hel : e < s.heap.objs.size := Heap.lt_size he
    have hil : it < s.heap.objs.size := by obtain ⟨_, q, _⟩ := hit; exact Heap.lt_size q
    have hat : a ≠ it := fun z => by
      obtain ⟨o, q1, q2, _⟩ := hit
      obtain ⟨o', q3, q4, _⟩ := (show s.heap.IsTuple a its.toArray from p)
      rw [← z, q3] at q1
      cases q1
      rw [q4] at q2
      exact absurd (Value.type.inj q2) (by decide)
    have hea : e ≠ a := fun z => by
      obtain ⟨o', q3, q4, _⟩ := (show s.heap.IsTuple a its.toArray from p)
      rw [← z, he] at q3
      cases q3
      exact absurd (Value.type.inj q4) (by decide)
    have hlt : i < its.toArray.size := by
      have := (List.getElem?_eq_some_iff.mp hu).1
      simpa using this
    refine wpAny_pyNext_enum_itemD (draws_tup (prog := X.prog) (w := X.w) (A := X.A.in1) (I.ok.hd hc) it a hat its.toArray) he ⟨hit, p⟩ hlt hne (by simp [hne, hea]) fun y h' tk hy ho st' hT hsz hk => ?_
    have hy' : y = u := by
      have z : its.toArray[i]? = some u := by simpa using hu
      rw [z] at hy
      exact (Option.some.inj hy).symm
    subst hy'
    refine ⟨_, rfl, wpAny_letOwnedTupleGo_enum (s := { s with heap := h', toks := tk + 1 }) ho fun h'' he' sb => ?_⟩
    have hT2 : h''.get? s.heap.objs.size = some { cls := .type "tuple", data := .seq #[.int i tk, y] } := (sb.2 _ (Nat.ne_of_gt hel)).trans hT
    have new : ObjOk X.prog X.w (upd H s.heap.objs.size (.tup [.int (i : Nat), x])) h'' s.heap.objs.size (.tup [.int (i : Nat), x]) :=
      ⟨by show 2 ≤ sizeLine; decide, [.int i tk, y], .cons ⟨_, rfl⟩ (.cons ru .nil), ⟨_, hT2, rfl, _, rfl⟩⟩
    have I1 : Inv X pins σ (upd H s.heap.objs.size (.tup [.int (i : Nat), x])) { s with heap := h'', toks := tk + 1 } :=
      I.turnedNew (ch := [e, it]) (fun b ob hb q => (sb.2 b (fun z => hb (by simp [z]))).trans (hk b ob (fun z => hb (by simp [z])) (fun z => hb (by simp [z])) q)) hf (Nat.le_refl _) new
    refine ⟨.ref s.heap.objs.size, _, I1, rfl, ⟨_, x, rfl, I.hok.fresh (Nat.le_refl _), rfl, fun ys hy => by rw [I.tuple_inj hy hq]; exact hx⟩, ⟨⟨y, ?_⟩, ?_, hne⟩, fun b hb => ?_⟩
    · have e1 : ((i + 1 : Nat) : Int) = (i : Int) + 1 := by omega
      rw [e1]; exact he'
    · obtain ⟨o, q, r⟩ := st'.1
      exact ⟨o, (sb.2 it (Ne.symm hne)).trans q, r⟩
    · have hb' : b < s.heap.objs.size := by
        have z : b = e ∨ b = it := by simpa using hb
        rcases z with z | z
        · rw [z]; exact hel
        · rw [z]; exact hil
      rw [upd_ne (Nat.ne_of_lt hb')]
      exact (hf b hb).1
  done := by
    intro X hP hw hK hc i pins s σ H E I hf st hg
    subst hP hw hK
    obtain ⟨⟨old, he⟩, hit, hne⟩ := st
    obtain ⟨xs, hq, hx⟩ := hg
    obtain ⟨its, rv, p, hz⟩ := I.tuple hq
    obtain ⟨f0, f1, f2, f3, f4, f5⟩ := hf it (by simp)
    have hl := rv.length
    have hat : a ≠ it := fun z => by
      obtain ⟨o, q1, q2, _⟩ := hit
      obtain ⟨o', q3, q4, _⟩ := (show s.heap.IsTuple a its.toArray from p)
      rw [← z, q3] at q1
      cases q1
      rw [q4] at q2
      exact absurd (Value.type.inj q2) (by decide)
    have hn : i = its.toArray.size := by simp; omega
    refine wpAny_pyNext_enum_endD (draws_tup (prog := X.prog) (w := X.w) (A := X.A.in1) (I.ok.hd hc) it a hat its.toArray) he (by rw [hn] at hit; exact ⟨hit, p⟩) fun h' eb => ⟨rfl, ?_⟩
    obtain ⟨g0, g1, g2, g3, g4, g5⟩ := hf e (by simp)
    obtain ⟨f0, f1, f2, f3, f4, f5⟩ := hf it (by simp)
    exact I.turned (t' := s.toks) (fun b o hb q => eb b o hb q) f0 f1 f3 f4 f5
  self := fun A i s Q E st h => let ⟨⟨_, he⟩, _⟩ := st; wpAny_pyIter_enum he h
def iEnumT (K : PySem.W.Frag) (ta : TA) : TI := fun σ H R => ta σ H fun vs H1 => ∃ a xs, vs = [.ref a] ∧ SqT K H1 a xs ∧ R (IteT K a) H1
theorem pi_enumT {X : Cx} {e : Expr} {ta : TA} {p pos tpos : Pos} {elts : List Expr} {kk : Nat} (hg : Gl X "enumerate") (hm : X.mg "enumerate" = none) (ha : PA X [e] ta) (hs : starEach [e] X.env = [(false, eval e X.env)] := by rfl) :
    PI X (.Tuple elts kk tpos) (.Call (.Name "enumerate" p) [e] [] pos) (iEnumT X.K ta) := by
  refine ⟨fun pins s σ H R I h => ?_⟩
  refine Call_ (ld_blt I hg hm boot_enumerate (PyProof.Rows.callWith_type1 (thn (ha.run pos pins s σ H _ I h) fun us s1 ⟨vs, H1, I1, r1, q1⟩ => ?_) hs rfl))
  obtain ⟨a, xs, ex, hq, q⟩ := q1
  subst ex
  cases r1 with
  | cons r rr =>
    cases rr
    cases r
    obtain ⟨its, rv, p', hz⟩ := I1.tuple hq
    refine call_enum_tup (show s1.heap.IsTuple a its.toArray from p') fun h' he hit hsz hk => wpAny_pyIter_enum he ?_
    have I2 : Inv X pins σ H1 { s1 with heap := h' } := I1.kept (t' := s1.toks) hk
    refine ⟨s1.heap.objs.size + 1, [s1.heap.objs.size + 1, s1.heap.objs.size], _, _, H1, rfl, I2, turn_enumT a (s1.heap.objs.size + 1) s1.heap.objs.size, ⟨⟨.none, he⟩, hit, Nat.succ_ne_self _⟩, fun b hb => ?_, q⟩
    have z : b = s1.heap.objs.size + 1 ∨ b = s1.heap.objs.size := by simpa using hb
    have hle : s1.heap.objs.size ≤ b := by
      rcases z with z | z
      · rw [z]; exact Nat.le_add_right _ _
      · rw [z]; exact Nat.le_refl _
    exact I1.fpOk hle (I1.hok.fresh hle)
/-- a loop over enumerate of a list that stands still -/
theorem for_enum {K : PySem.W.Frag} {a : Addr} {xs : List V} {g : TG} {tb : TS} {D : Ends} {σ : L2.St} {H : Hp} (Pv : Nat → L2.St → Hp → Prop) (h0 : Pv 0 σ H) (hl : ∀ i σ H, i ≤ xs.length → Pv i σ H → SqL K H a xs)
    (hs : ∀ i x σ H (T : Addr), xs[i]? = some x → Pv i σ H → H T = none → g (.ref T) σ (upd H T (.tup [.int (i : Nat), x])) fun σ2 H2 => tb { D with nx := Pv (i + 1), ct := Pv (i + 1), bk := D.nx } σ2 H2) (hd : ∀ σ H, Pv xs.length σ H → D.nx σ H) :
    ∃ W : Nat → Nat → L2.St → Hp → Prop, (∃ m, W 0 m σ H) ∧ ∀ i m σ H, W i m σ H →
      ((Ite K a).stop i H ∧ D.nx σ H) ∨ ((Ite K a).go i H ∧ ∃ N : L2.St → Hp → Prop, (∀ σ' H', N σ' H' → ∃ m', m' < m ∧ W (i + 1) m' σ' H') ∧ ∀ x H', (Ite K a).yld i H x H' → g x σ H' fun σ2 H2 => tb { D with nx := N, ct := N, bk := D.nx } σ2 H2) := by
  refine ⟨fun i m σ H => m = xs.length - i ∧ i ≤ xs.length ∧ Pv i σ H, ⟨xs.length, by simp, Nat.zero_le _, h0⟩, ?_⟩
  rintro i m σ H ⟨rfl, hi, p⟩
  have q := hl i σ H hi p
  by_cases lt : i < xs.length
  · refine .inr ⟨⟨xs, xs[i], q, by simp [lt]⟩, Pv (i + 1), fun σ' H' p' => ⟨xs.length - (i + 1), by omega, rfl, lt, p'⟩, fun x H' y => ?_⟩
    obtain ⟨T, z, rfl, hT, rfl, y⟩ := y
    exact hs i z σ H T (y xs q) p hT
  · have e : i = xs.length := by omega
    subst e
    exact .inl ⟨⟨xs, q, Nat.le_refl _⟩, hd σ H p⟩
theorem for_enumT {K : PySem.W.Frag} {a : Addr} {xs : List V} {g : TG} {tb : TS} {D : Ends} {σ : L2.St} {H : Hp} (Pv : Nat → L2.St → Hp → Prop) (h0 : Pv 0 σ H) (hl : ∀ i σ H, i ≤ xs.length → Pv i σ H → SqT K H a xs)
    (hs : ∀ i x σ H (T : Addr), xs[i]? = some x → Pv i σ H → H T = none → g (.ref T) σ (upd H T (.tup [.int (i : Nat), x])) fun σ2 H2 => tb { D with nx := Pv (i + 1), ct := Pv (i + 1), bk := D.nx } σ2 H2) (hd : ∀ σ H, Pv xs.length σ H → D.nx σ H) :
    ∃ W : Nat → Nat → L2.St → Hp → Prop, (∃ m, W 0 m σ H) ∧ ∀ i m σ H, W i m σ H →
      ((IteT K a).stop i H ∧ D.nx σ H) ∨ ((IteT K a).go i H ∧ ∃ N : L2.St → Hp → Prop, (∀ σ' H', N σ' H' → ∃ m', m' < m ∧ W (i + 1) m' σ' H') ∧ ∀ x H', (IteT K a).yld i H x H' → g x σ H' fun σ2 H2 => tb { D with nx := N, ct := N, bk := D.nx } σ2 H2) := by
  refine ⟨fun i m σ H => m = xs.length - i ∧ i ≤ xs.length ∧ Pv i σ H, ⟨xs.length, by simp, Nat.zero_le _, h0⟩, ?_⟩
  rintro i m σ H ⟨rfl, hi, p⟩
  have q := hl i σ H hi p
  by_cases lt : i < xs.length
  · refine .inr ⟨⟨xs, xs[i], q, by simp [lt]⟩, Pv (i + 1), fun σ' H' p' => ⟨xs.length - (i + 1), by omega, rfl, lt, p'⟩, fun x H' y => ?_⟩
    obtain ⟨T, z, rfl, hT, rfl, y⟩ := y
    exact hs i z σ H T (y xs q) p hT
  · have e : i = xs.length := by omega
    subst e
    exact .inl ⟨⟨xs, q, rfl⟩, hd σ H p⟩
/-! ### a row: a list or a tuple -/
def SqR (K : PySem.W.Frag) (H : Hp) (a : Addr) (xs : List V) : Prop := SqL K H a xs ∨ SqT K H a xs
theorem same_tup {K : PySem.W.Frag} {H H' : Hp} {a : Addr} {xs : List V} (e : Same H H') (h : SqT K H a xs) : SqT K H' a xs := by
  rcases h with (h | ⟨o, h⟩) | h
  · exact .inl (.inl (e _ _ h))
  · exact .inl (.inr ⟨o, e _ _ h⟩)
  · exact .inr h
theorem SqR.same {K : PySem.W.Frag} {H H' : Hp} {a : Addr} {xs : List V} (e : Same H H') (h : SqR K H a xs) : SqR K H' a xs := h.imp e.seq (same_tup e)
/-- a loop over a row that stands still -/
theorem for_row {K : PySem.W.Frag} {a : Addr} {xs : List V} {g : TG} {tb : TS} {D : Ends} {σ : L2.St} {H : Hp} {ta : TE} (ea : ∀ Q, Q (.ref a) H → ta σ H Q) (Pv : Nat → L2.St → Hp → Prop) {Hb : Hp} (hr : SqR K Hb a xs) (h0 : Pv 0 σ H) (hl : ∀ i σ H', i ≤ xs.length → Pv i σ H' → Same Hb H')
    (hs : ∀ i x σ H, xs[i]? = some x → Pv i σ H → g x σ H fun σ2 H2 => tb { D with nx := Pv (i + 1), ct := Pv (i + 1), bk := D.nx } σ2 H2) (hd : ∀ σ H, Pv xs.length σ H → D.nx σ H) :
    tFor (fun σ H R => iList K ta σ H R ∨ iTup K ta σ H R) g tb D σ H := by
  rcases hr with hr | hr
  · exact .inl (ea _ ⟨a, rfl, ⟨_, (hl 0 σ H (Nat.zero_le _) h0).seq hr⟩, for_list (K := K) (a := a) (xs := xs) Pv h0 (fun i σ H' hi p => (hl i σ H' hi p).seq hr) hs hd⟩)
  · exact .inr (ea _ ⟨a, rfl, ⟨_, same_tup (hl 0 σ H (Nat.zero_le _) h0) hr⟩, for_tup (K := K) (a := a) (xs := xs) Pv h0 (fun i σ H' hi p => same_tup (hl i σ H' hi p) hr) hs hd⟩)
/-- .. over enumerate of a row -/
theorem for_enumR {K : PySem.W.Frag} {a : Addr} {xs : List V} {g : TG} {tb : TS} {D : Ends} {σ : L2.St} {H : Hp} {ta : TA} (ea : ∀ Q, Q [.ref a] H → ta σ H Q) (Pv : Nat → L2.St → Hp → Prop) {Hb : Hp} (hr : SqR K Hb a xs) (h0 : Pv 0 σ H) (hl : ∀ i σ H', i ≤ xs.length → Pv i σ H' → Same Hb H')
    (hs : ∀ i x σ H (T : Addr), xs[i]? = some x → Pv i σ H → H T = none → g (.ref T) σ (upd H T (.tup [.int (i : Nat), x])) fun σ2 H2 => tb { D with nx := Pv (i + 1), ct := Pv (i + 1), bk := D.nx } σ2 H2) (hd : ∀ σ H, Pv xs.length σ H → D.nx σ H) :
    tFor (fun σ H R => iEnum K ta σ H R ∨ iEnumT K ta σ H R) g tb D σ H := by
  rcases hr with hr | hr
  · exact .inl (ea _ ⟨a, _, rfl, (hl 0 σ H (Nat.zero_le _) h0).seq hr, for_enum (K := K) (a := a) (xs := xs) Pv h0 (fun i σ H' hi p => (hl i σ H' hi p).seq hr) hs hd⟩)
  · exact .inr (ea _ ⟨a, _, rfl, same_tup (hl 0 σ H (Nat.zero_le _) h0) hr, for_enumT (K := K) (a := a) (xs := xs) Pv h0 (fun i σ H' hi p => same_tup (hl i σ H' hi p) hr) hs hd⟩)
theorem ty_L {K : PySem.W.Frag} {H : Hp} {a : Addr} {xs : List V} (h : SqL K H a xs) : TyX K H (.ref a) (.type "list") := by
  rcases h with (h | ⟨o, h⟩) | ⟨o, its, n, h1, h2, _⟩
  · exact .base (.lst h)
  · exact .base (.frz h)
  · exact .kList h1 h2
theorem ty_T {K : PySem.W.Frag} {H : Hp} {a : Addr} {xs : List V} (h : SqT K H a xs) : TyX K H (.ref a) (.type "tuple") := by
  rcases h with (h | ⟨o, h⟩) | ⟨o, its, n, h1, h2, _⟩
  · exact .base (.tup h)
  · exact .fTuple h
  · exact .kTuple h1 h2
/-- isinstance(row, (list, tuple)) -/
theorem isRow {K : PySem.W.Frag} {H : Hp} {a tp : Addr} {xs : List V} {Q : VK} (h : SqR K H a xs) (ht : H tp = some (.tup [.ty "list", .ty "tuple"])) (q : Q (.bl true) H) : rIsiT K [.ref a, .ref tp] H Q := by
  have pc : Paired ClsV [.ty "list", .ty "tuple"] [.type "list", .type "tuple"] := .cons (.ty _) (.cons (.ty _) .nil)
  rcases h with h | h
  · exact ⟨_, tp, _, _, _, true, rfl, ht, pc, ty_L h, kitAny_cons (kit_ty (r := true) (by decide +kernel)) (fun z => nomatch z) (fun _ => rfl), q⟩
  · exact ⟨_, tp, _, _, _, true, rfl, ht, pc, ty_T h, kitAny_cons (kit_ty (r := false) (by decide +kernel)) (fun _ => kitAny_cons (kit_ty (r := true) (by decide +kernel)) (fun z => nomatch z) (fun _ => rfl)) (fun z => nomatch z), q⟩
theorem sortedR {K : PySem.W.Frag} {H : Hp} {a : Addr} {ns : List Int} {Q : VK} (hp : SqR K H a (ns.map V.int)) (h : ∀ (ms : List Int) (p : Addr) (G : Hp), ms.Perm ns → ms.Pairwise (· ≤ ·) → G p = some (.lst (ms.map V.int)) → Same H G → H p = none → Q (.ref p) G) : rSortedI K [.ref a] H Q ∨ rSortedTup K [.ref a] H Q :=
  hp.imp (fun q => Rd.sortedI q h) fun q => ⟨a, ns, rfl, q, fun ms p h1 h2 h3 => h ms p _ h1 h2 upd_same (fun b u e => by rw [upd_ne (ne_of_none e h3)]; exact e) h3⟩
end Ru

/-! Readings of texts, comprehensions and own objects by their heads; letters. -/
namespace Rd
open PySem PySem.Spec PyProof.Rows L2
variable {X : Cx} {D : Ends} {σ : L2.St} {H : Hp} {K : PySem.W.Frag}
/-! ### texts -/
def nAddS : R2 := fun x y H Q => ∃ i j, x = .str i ∧ y = .str j ∧ i.length + j.length ≤ sizeLine ∧ Q (.str (i ++ j)) H
theorem o_addS : OpR X (binaryOp .Add) nAddS := op_add_str
theorem addS {i j : Str} {Q : VK} (hz : i.length + j.length ≤ sizeLine) (h : Q (.str (i ++ j)) H) : nAddS (.str i) (.str j) H Q := ⟨i, j, rfl, rfl, hz, h⟩
def nInC : R2 := fun x y H Q => ∃ (c : Nat) (z : Str), x = .str ⟨#[c]⟩ ∧ y = .str z ∧ Q (.bl (decide (c ∈ z.cps.toList))) H
theorem o_inC : OpR X (compareOp .In) nInC := op_in_sign
theorem inC {c : Nat} {z : Str} {Q : VK} (h : Q (.bl (decide (c ∈ z.cps.toList))) H) : nInC (.str ⟨#[c]⟩) (.str z) H Q := ⟨c, z, rfl, rfl, h⟩
theorem inCT {c : Nat} {z : Str} {Q : VK} (e : c ∈ z.cps.toList) (h : Q (.bl true) H) : nInC (.str ⟨#[c]⟩) (.str z) H Q := inC (by rw [decide_eq_true e]; exact h)
theorem nodup_take {α : Type} {l : List α} {i : Nat} {x : α} (nd : l.Nodup) (h : l[i]? = some x) : x ∉ l.take i := by
  intro m
  obtain ⟨j, hj, e⟩ := List.getElem_of_mem m
  rw [List.length_take] at hj
  have e2 : l[j]? = some x := by rw [← e, List.getElem_take]; exact List.getElem?_eq_getElem (by omega)
  have := (List.getElem?_inj (by omega) nd).mp (e2.trans h.symm)
  omega
theorem ixS {z : Str} {i : Int} {c : Nat} {Q : VK} (hz : z.length ≤ sizeLine) (e : atI z.cps.toList i = some c) (h : Q (.str ⟨#[c]⟩) H) : rIxS (.str z) (.int i) H Q := ⟨z, i, c, rfl, rfl, hz, e, h⟩
theorem inStrs {neg : Bool} {z : Str} {p : Addr} {ws : List Str} {Q : VK} (hp : SqL K H p (ws.map V.str) ∨ SqT K H p (ws.map V.str)) (h : Q (.bl (if neg then !decide (z ∈ ws) else decide (z ∈ ws))) H) : rIn K neg (.str z) (.ref p) H Q := by
  have e : inV (.str z) (ws.map V.str) = decide (z ∈ ws) := by
    unfold inV
    rw [List.any_map, Bool.eq_iff_iff, List.any_eq_true, decide_eq_true_iff]
    constructor
    · rintro ⟨y, hy, q⟩
      have : y = z := by simpa [eqV] using q
      exact this ▸ hy
    · intro hz
      exact ⟨z, hz, by simp [eqV]⟩
  exact Rd.inS hp rfl (flat_strs ws) (by rw [e]; exact h)
theorem inStrsY {z : Str} {p : Addr} {ws : List Str} {Q : VK} (hp : SqL K H p (ws.map V.str) ∨ SqT K H p (ws.map V.str)) (h : Q (.bl (decide (z ∈ ws))) H) : rIn K false (.str z) (.ref p) H Q := inStrs hp h
theorem inStrsN {z : Str} {p : Addr} {ws : List Str} {Q : VK} (hp : SqL K H p (ws.map V.str) ∨ SqT K H p (ws.map V.str)) (h : Q (.bl (!decide (z ∈ ws))) H) : rIn K true (.str z) (.ref p) H Q := inStrs hp h
theorem inInts {neg : Bool} {z : Int} {p : Addr} {ws : List Int} {Q : VK} (hp : SqL K H p (ws.map V.int) ∨ SqT K H p (ws.map V.int)) (h : Q (.bl (if neg then !decide (z ∈ ws) else decide (z ∈ ws))) H) : rIn K neg (.int z) (.ref p) H Q := by
  have e : inV (.int z) (ws.map V.int) = decide (z ∈ ws) := by
    unfold inV
    rw [List.any_map, Bool.eq_iff_iff, List.any_eq_true, decide_eq_true_iff]
    constructor
    · rintro ⟨y, hy, q⟩
      have : y = z := by simpa [eqV] using q
      exact this ▸ hy
    · intro hz
      exact ⟨z, hz, by simp [eqV]⟩
  exact Rd.inS hp rfl (by rw [List.all_map]; exact List.all_eq_true.mpr fun _ _ => rfl) (by rw [e]; exact h)
theorem inIntsY {z : Int} {p : Addr} {ws : List Int} {Q : VK} (hp : SqL K H p (ws.map V.int) ∨ SqT K H p (ws.map V.int)) (h : Q (.bl (decide (z ∈ ws))) H) : rIn K false (.int z) (.ref p) H Q := inInts hp h
theorem inIntsN {z : Int} {p : Addr} {ws : List Int} {Q : VK} (hp : SqL K H p (ws.map V.int) ∨ SqT K H p (ws.map V.int)) (h : Q (.bl (!decide (z ∈ ws))) H) : rIn K true (.int z) (.ref p) H Q := inInts hp h
theorem map_str {ns : List Str} {i : Nat} (h : i < ns.length) : (ns.map V.str)[i]? = some (.str ns[i]) := by simp [h]
theorem map_strG {ns : List Str} {i : Nat} {x : V} (h : (ns.map V.str)[i]? = some x) : ∃ n, ns[i]? = some n ∧ x = .str n := by
  rw [List.getElem?_map] at h
  cases e : ns[i]? with
  | none => rw [e] at h; cases h
  | some z => rw [e] at h; exact ⟨z, rfl, (Option.some.inj h).symm⟩
theorem map_refG {ns : List Addr} {i : Nat} {x : V} (h : (ns.map V.ref)[i]? = some x) : ∃ n, ns[i]? = some n ∧ x = .ref n := by
  rw [List.getElem?_map] at h
  cases e : ns[i]? with
  | none => rw [e] at h; cases h
  | some z => rw [e] at h; exact ⟨z, rfl, (Option.some.inj h).symm⟩
theorem map_ref {ns : List Addr} {i : Nat} (h : i < ns.length) : (ns.map V.ref)[i]? = some (.ref ns[i]) := by simp [h]
theorem ins {l : Addr} {xs : List V} {i : Int} {y : V} {Q : VK} (hp : H l = some (.lst xs)) (hz : xs.length < sizeLine) (h0 : 0 ≤ i) (h1 : i < 2 ^ 63) (h : ∀ G : Hp, G l = some (.lst (xs.take i.toNat ++ [y] ++ xs.drop i.toNat)) → (∀ b, b ≠ l → G b = H b) → Q .non G) :
    ∃ (l' : Addr) (xs' : List V) (i' : Int) (y' : V), V.ref l = .ref l' ∧ [V.int i, y] = [.int i', y'] ∧ H l' = some (.lst xs') ∧ xs'.length < sizeLine ∧ 0 ≤ i' ∧ i' < 2 ^ 63 ∧ Q .non (upd H l' (.lst (xs'.take i'.toNat ++ [y'] ++ xs'.drop i'.toNat))) :=
  ⟨l, xs, i, y, rfl, rfl, hp, hz, h0, h1, h _ upd_same fun b hb => upd_ne hb⟩
def nInsert : V → List V → Hp → VK → Prop := fun x vs H Q => ∃ (l : Addr) (xs : List V) (i : Int) (y : V), x = .ref l ∧ vs = [.int i, y] ∧ H l = some (.lst xs) ∧ xs.length < sizeLine ∧ 0 ≤ i ∧ i < 2 ^ 63 ∧
    Q .non (upd H l (.lst (xs.take i.toNat ++ [y] ++ xs.drop i.toNat)))
theorem m_insert : MtR X "list.insert" nInsert := mt_insert
theorem insert {l : Addr} {xs : List V} {i : Int} {y : V} {Q : VK} (hp : H l = some (.lst xs)) (hz : xs.length < sizeLine) (h0 : 0 ≤ i) (h1 : i < 2 ^ 63) (h : ∀ G : Hp, G l = some (.lst (xs.take i.toNat ++ [y] ++ xs.drop i.toNat)) → (∀ b, b ≠ l → G b = H b) → Q .non G) : nInsert (.ref l) [.int i, y] H Q :=
  ins hp hz h0 h1 h
/-! ### equal lists of texts -/
theorem dpAll_strs : ∀ ns : List Str, DpAll K H (ns.map V.str) (ns.map PyData.str)
  | [] => .nil
  | n :: ns => .cons (.str n) (dpAll_strs ns)
theorem canLay_strs : ∀ ns : List Str, (∀ z ∈ ns, PyData.strOk z = true) → PyData.canLayAll0 (ns.map PyData.str) = true
  | [], _ => rfl
  | n :: ns, h => by
    show (PyData.canLay0 (.str n) && PyData.canLayAll0 (ns.map PyData.str)) = true
    rw [canLay_strs ns fun z hz => h z (List.mem_cons_of_mem _ hz)]
    show (PyData.strOk n && true) = true
    rw [h n List.mem_cons_self]
    rfl
theorem depth_strs : ∀ ns : List Str, PyData.depthAll (ns.map PyData.str) = 0
  | [] => rfl
  | n :: ns => by
    show max (PyData.depth (.str n)) (PyData.depthAll (ns.map PyData.str)) = 0
    rw [depth_strs ns]
    rfl
theorem shaped_strs {ns : List Str} (h : ∀ z ∈ ns, PyData.strOk z = true) : SeqAt.shaped (.list (ns.map PyData.str)) = true := by
  have h1 : PyData.canLay0 (.list (ns.map PyData.str)) = true := canLay_strs ns h
  have h2 : PyData.depth (.list (ns.map PyData.str)) = 1 := by
    show PyData.depthAll (ns.map PyData.str) + 1 = 1
    rw [depth_strs]
  unfold SeqAt.shaped
  rw [h1, h2]
  rfl
theorem eqStrs {a b : Addr} {ns : List Str} {Q : VK} (h1 : SqL K H a (ns.map V.str)) (h2 : SqL K H b (ns.map V.str)) (h : ∀ z ∈ ns, PyData.strOk z = true) (q : Q (.bl true) H) : rEqD K (.ref a) (.ref b) H Q := by
  refine ⟨_, _, .lst h1 (dpAll_strs ns), .lst h2 (dpAll_strs ns), shaped_strs h, shaped_strs h, ?_⟩
  rw [SeqAt.eqv_refl _ (SeqAt.canLay_of_shaped (shaped_strs h))]
  exact q
theorem neStrs {a b : Addr} {ns : List Str} {Q : VK} (h1 : SqL K H a (ns.map V.str)) (h2 : SqL K H b (ns.map V.str)) (h : ∀ z ∈ ns, PyData.strOk z = true) (q : Q (.bl false) H) : rNeD K (.ref a) (.ref b) H Q := by
  refine ⟨_, _, .lst h1 (dpAll_strs ns), .lst h2 (dpAll_strs ns), shaped_strs h, shaped_strs h, ?_⟩
  rw [SeqAt.eqv_refl _ (SeqAt.canLay_of_shaped (shaped_strs h))]
  exact q
/-! ### equal lists of ints -/
theorem dpAll_ints : ∀ ns : List Int, DpAll K H (ns.map V.int) (ns.map PyData.int)
  | [] => .nil
  | n :: ns => .cons (.int n) (dpAll_ints ns)
theorem canLay_ints : ∀ ns : List Int, PyData.canLayAll0 (ns.map PyData.int) = true
  | [] => rfl
  | n :: ns => by
    show (PyData.canLay0 (.int n) && PyData.canLayAll0 (ns.map PyData.int)) = true
    rw [canLay_ints ns]
    rfl
theorem depth_ints : ∀ ns : List Int, PyData.depthAll (ns.map PyData.int) = 0
  | [] => rfl
  | n :: ns => by
    show max (PyData.depth (.int n)) (PyData.depthAll (ns.map PyData.int)) = 0
    rw [depth_ints ns]
    rfl
theorem shaped_ints (ns : List Int) : SeqAt.shaped (.list (ns.map PyData.int)) = true := by
  have h1 : PyData.canLay0 (.list (ns.map PyData.int)) = true := canLay_ints ns
  have h2 : PyData.depth (.list (ns.map PyData.int)) = 1 := by
    show PyData.depthAll (ns.map PyData.int) + 1 = 1
    rw [depth_ints]
  unfold SeqAt.shaped
  rw [h1, h2]
  rfl
theorem eqv_ints : ∀ (xs ys : List Int), PyData.eqvAll (xs.map PyData.int) (ys.map PyData.int) = decide (xs = ys)
  | [], [] => rfl
  | [], _ :: _ => rfl
  | _ :: _, [] => rfl
  | x :: xs, y :: ys => by
    show (PyData.eqv (.int x) (.int y) && PyData.eqvAll (xs.map PyData.int) (ys.map PyData.int)) = _
    rw [eqv_ints xs ys, Bool.eq_iff_iff]
    show ((x == y) && decide (xs = ys)) = true ↔ _
    simp
theorem eqInts {a b : Addr} {ns ms : List Int} {Q : VK} (h1 : SqL K H a (ns.map V.int)) (h2 : SqL K H b (ms.map V.int)) (q : Q (.bl (decide (ns = ms))) H) : rEqD K (.ref a) (.ref b) H Q := by
  refine ⟨_, _, .lst h1 (dpAll_ints ns), .lst h2 (dpAll_ints ms), shaped_ints ns, shaped_ints ms, ?_⟩
  show Q (.bl (PyData.eqvAll (ns.map PyData.int) (ms.map PyData.int))) H
  rw [eqv_ints]
  exact q
theorem neInts {a b : Addr} {ns ms : List Int} {Q : VK} (h1 : SqL K H a (ns.map V.int)) (h2 : SqL K H b (ms.map V.int)) (q : Q (.bl (!decide (ns = ms))) H) : rNeD K (.ref a) (.ref b) H Q := by
  refine ⟨_, _, .lst h1 (dpAll_ints ns), .lst h2 (dpAll_ints ms), shaped_ints ns, shaped_ints ms, ?_⟩
  show Q (.bl (!PyData.eqvAll (ns.map PyData.int) (ms.map PyData.int))) H
  rw [eqv_ints]
  exact q
/-! ### comprehensions -/
def Lc (J : It) (g : TG) (tt : TT) (te : TE) (vs : List Nat) (σ : L2.St) (H1 : Hp) (Q : VK) : Prop := ∀ D, H1 D = none → ∃ W : Nat → Nat → Hp → Prop, (∃ m, W 0 m (upd H1 D (.lst []))) ∧ ∀ i m H, W i m H →
  (J.stop i H ∧ Q (.ref D) H) ∨ (J.go i H ∧ ∃ Nx : Hp → Prop, (∀ H', Nx H' → ∃ m', m' < m ∧ W (i + 1) m' H') ∧ ∀ x H', J.yld i H x H' → g x (wipe σ vs) H' fun σ2 H2 => wipe σ2 vs = wipe σ vs ∧ tt σ2 H2 fun b H3 =>
    if b = true then te σ2 H3 fun y H4 => ∃ acc, H4 D = some (.lst acc) ∧ acc.length < sizeLine ∧ Nx (upd H4 D (.lst (acc ++ [y]))) else Nx H3)
theorem lc {wi : TI} {g : TG} {tt : TT} {te : TE} {vs : List Nat} {Q : VK} (h : wi σ H fun J H1 => Lc J g tt te vs σ H1 Q) : tLc wi g tt te vs σ H Q := h
theorem istr {te : TE} {R : It → Hp → Prop} (h : te σ H fun v H1 => ∃ x, v = .str x ∧ R (Its x) H1) : iStr te σ H R := h
theorem strE {z : Str} {P : Str → Prop} (h : P z) : ∃ x, V.str z = .str x ∧ P x := ⟨z, rfl, h⟩
theorem tyes {Q : Bool → Hp → Prop} (h : Q true H) : tYes σ H Q := h
/-- the state of a comprehension: the list at D holds acc, all ahead of it stands -/
def LcP (D : Addr) (H1 : Hp) (R : Nat → List V → Hp → Prop) : Nat → Hp → Prop := fun i H => ∃ acc, H D = some (.lst acc) ∧ Same H1 H ∧ R i acc H
def LcPush (D : Addr) (H1 : Hp) (R : Nat → List V → Hp → Prop) (i : Nat) (y : V) (H4 : Hp) : Prop := ∃ acc, H4 D = some (.lst acc) ∧ acc.length < sizeLine ∧ LcP D H1 R (i + 1) (upd H4 D (.lst (acc ++ [y])))
theorem lcPush {D : Addr} {H1 H4 : Hp} {R : Nat → List V → Hp → Prop} {i : Nat} {y : V} {acc : List V} (hD : H4 D = some (.lst acc)) (nD : H1 D = none) (s1 : Same H1 H4) (hz : acc.length < sizeLine) (r : ∀ G : Hp, G D = some (.lst (acc ++ [y])) → (∀ b, b ≠ D → G b = H4 b) → R (i + 1) (acc ++ [y]) G) : LcPush D H1 R i y H4 :=
  ⟨acc, hD, hz, acc ++ [y], upd_same, fun b o e => by rw [upd_ne (ne_of_none e nD)]; exact s1 b o e, r _ upd_same fun b hb => upd_ne hb⟩
theorem lcS {J : It} {n : Nat} {G : Hp → Prop} {Y : Nat → Hp → V → Hp → Prop} (w : Walk J n G Y) {g : TG} {tt : TT} {te : TE} {vs : List Nat} {H1 : Hp} {Q : VK} (hG : ∀ H, Same H1 H → G H) (R : Addr → Nat → List V → Hp → Prop)
    (r0 : ∀ (D : Addr) (G : Hp), H1 D = none → G D = some (.lst []) → Same H1 G → R D 0 [] G)
    (hs : ∀ (D : Addr) i x H H' acc, H1 D = none → i < n → H D = some (.lst acc) → Same H1 H → R D i acc H → Y i H x H' → g x (wipe σ vs) H' fun σ2 H2 => wipe σ2 vs = wipe σ vs ∧ tt σ2 H2 fun b H3 =>
      if b = true then te σ2 H3 fun y H4 => LcPush D H1 (R D) i y H4 else LcP D H1 (R D) (i + 1) H3)
    (hd : ∀ (D : Addr) acc H, H1 D = none → H D = some (.lst acc) → Same H1 H → R D n acc H → Q (.ref D) H) : Lc J g tt te vs σ H1 Q := fun D nD =>
  lc_it w (LcP D H1 (R D)) ⟨[], upd_same, same_upd nD, r0 D _ nD upd_same (same_upd nD)⟩ (fun i H hi ⟨acc, h1, h2, h3⟩ => hG H h2)
    (fun i x H H' hi ⟨acc, h1, h2, h3⟩ y => hs D i x H H' acc nD hi h1 h2 h3 y) (fun H ⟨acc, h1, h2, h3⟩ => hd D acc H nD h1 h2 h3)
/-- .. over a row: a list or a tuple -/
theorem lcRow {a : Addr} {xs : List V} {ta : TE} {g : TG} {tt : TT} {te : TE} {vs : List Nat} {H1 : Hp} {Q : VK} (ea : ∀ Q : VK, Q (.ref a) H1 → ta σ H1 Q) (hr : Ru.SqR K H1 a xs) (R : Addr → Nat → List V → Hp → Prop)
    (r0 : ∀ (D : Addr) (G : Hp), H1 D = none → G D = some (.lst []) → Same H1 G → R D 0 [] G)
    (hs : ∀ (D : Addr) i x H acc, H1 D = none → i < xs.length → H D = some (.lst acc) → Same H1 H → R D i acc H → xs[i]? = some x → g x (wipe σ vs) H fun σ2 H2 => wipe σ2 vs = wipe σ vs ∧ tt σ2 H2 fun b H3 =>
      if b = true then te σ2 H3 fun y H4 => LcPush D H1 (R D) i y H4 else LcP D H1 (R D) (i + 1) H3)
    (hd : ∀ (D : Addr) acc H, H1 D = none → H D = some (.lst acc) → Same H1 H → R D xs.length acc H → Q (.ref D) H) : (fun σ H R => iList K ta σ H R ∨ iTup K ta σ H R) σ H1 fun J H1 => Lc J g tt te vs σ H1 Q := by
  rcases hr with hr | hr
  · exact .inl (ea _ ⟨a, rfl, ⟨_, hr⟩, lcS walk_list (fun _ s => s.seq hr) R r0 (fun D i x H H' acc nD hi hD sm r ⟨e, hx⟩ => by cases e; exact hs D i x H acc nD hi hD sm r hx) hd⟩)
  · exact .inr (ea _ ⟨a, rfl, ⟨_, hr⟩, lcS walk_tup (fun _ s => Ru.same_tup s hr) R r0 (fun D i x H H' acc nD hi hD sm r ⟨e, hx⟩ => by cases e; exact hs D i x H acc nD hi hD sm r hx) hd⟩)
theorem wipeE {A B : L2.St} {P : Prop} (e : A = B) (h : P) : A = B ∧ P := ⟨e, h⟩
/-! ### list(range(..)) -/
theorem lstRg {te : L2.St → Hp → (Int → Int → Hp → Prop) → Prop} {Q : VK} (h : te σ H fun a b H1 => RgOk a b ∧ NewQ (.lst (rgV a b)) Q H1) : tLstRg te σ H Q := h
theorem tupRg {te : L2.St → Hp → (Int → Int → Hp → Prop) → Prop} {Q : VK} (h : te σ H fun a b H1 => RgOk a b ∧ NewQ (.tup (rgV a b)) Q H1) : tTupRg te σ H Q := h
theorem rg1 {ta : TE} {Q : Int → Int → Hp → Prop} (h : ta σ H fun x H1 => ∃ n, x = .int n ∧ Q 0 n H1) : tRg1 ta σ H Q := h
theorem rg2 {ta tb : TE} {Q : Int → Int → Hp → Prop} (h : ta σ H fun x H1 => tb σ H1 fun y H2 => ∃ i j, x = .int i ∧ y = .int j ∧ Q i j H2) : tRg2 ta tb σ H Q := h
theorem intE2 {i j : Int} {P : Int → Int → Prop} (h : P i j) : ∃ a b, V.int i = .int a ∧ V.int j = .int b ∧ P a b := ⟨i, j, rfl, rfl, h⟩
theorem rgV0 (n : Nat) : rgV 0 (n : Int) = ((List.range n).map fun i : Nat => (i : Int)).map V.int := by
  unfold rgV
  rw [List.map_map, show ((n : Int) - 0).toNat = n by omega]
  refine List.map_congr_left fun i _ => ?_
  show V.int (0 + (i : Nat)) = V.int (i : Int)
  rw [Int.zero_add]
/-! ### dicts with ints as keys -/
theorem dnew {Q : VK} (h : ∀ (p : Addr) (G : Hp), H p = none → G p = some (.dK []) → Same H G → Q (.ref p) G) : tDNewK σ H Q :=
  fun p hp => h p _ hp upd_same fun b u e => by rw [upd_ne (ne_of_none e hp)]; exact e
theorem dgetH {td ty : TE} {Q : VK} (h : td σ H fun x H1 => ty σ H1 fun y H2 => ∃ a v, x = .ref a ∧ DGet H2 a y (some v) ∧ Q v H2) : tDGet td ty σ H Q := h
theorem dget {a : Addr} {kvs : List (Key × V)} {k : Int} {v : V} {P : V → Prop} (e : H a = some (.dK kvs)) (hv : valV kvs (.inl k) = some v) (q : P v) : ∃ a' v', V.ref a = .ref a' ∧ DGet H a' (.int k) (some v') ∧ P v' :=
  ⟨a, v, rfl, hv ▸ DGet.k (k := .inl k) e, q⟩
theorem dgetF {a : Addr} {o : Obj} {kvs : List (Key × V)} {k : Int} {v : V} {P : V → Prop} (e : H a = some (.frz o (.dK kvs))) (hv : valV kvs (.inl k) = some v) (q : P v) : ∃ a' v', V.ref a = .ref a' ∧ DGet H a' (.int k) (some v') ∧ P v' :=
  ⟨a, v, rfl, .inl ⟨kvs, .inl k, .inr ⟨o, e⟩, rfl, hv.symm⟩, q⟩
theorem dinH {ty td : TE} {Q : VK} (h : ty σ H fun y H1 => td σ H1 fun x H2 => ∃ a o, x = .ref a ∧ DGet H2 a y o ∧ Q (.bl o.isSome) H2) : tDIn ty td σ H Q := h
theorem dninH {ty td : TE} {Q : VK} (h : ty σ H fun y H1 => td σ H1 fun x H2 => ∃ a o, x = .ref a ∧ DGet H2 a y o ∧ Q (.bl (!o.isSome)) H2) : tDNotIn ty td σ H Q := h
theorem dany {a : Addr} {kvs : List (Key × V)} {k : Int} {P : Option V → Prop} (e : H a = some (.dK kvs)) (q : P (valV kvs (.inl k))) : ∃ a' o, V.ref a = .ref a' ∧ DGet H a' (.int k) o ∧ P o :=
  ⟨a, _, rfl, DGet.k (k := .inl k) e, q⟩
theorem dput {a : Addr} {kvs : List (Key × V)} {k : Int} {v : V} {Q : Hp → Prop} (e : H a = some (.dK kvs)) (hl : kvs.length < sizeLine) (h : ∀ G : Hp, G a = some (.dK (putK kvs (.inl k) v)) → (∀ b, b ≠ a → G b = H b) → Q G) : rSetD (.ref a) (.int k) v H Q :=
  ⟨a, _, rfl, DPut.k (k := .inl k) e hl, h _ upd_same fun b hb => upd_ne hb⟩
theorem dget1H {td ty : TE} {Q : VK} (h : td σ H fun x H1 => ∃ a, x = .ref a ∧ IsD H1 a ∧ ty σ H1 fun y H2 => ∃ o, DGet H2 a y o ∧ Q (o.getD .non) H2) : tDGet1 td ty σ H Q := h
theorem isD {a : Addr} {kvs : List (Key × V)} {P : Addr → Prop} (e : H a = some (.dK kvs)) (q : P a) : ∃ a', V.ref a = .ref a' ∧ IsD H a' ∧ P a' := ⟨a, rfl, .inl ⟨kvs, .inl e⟩, q⟩
theorem dgetO {a : Addr} {kvs : List (Key × V)} {k : Int} {P : Option V → Prop} (e : H a = some (.dK kvs)) (q : P (valV kvs (.inl k))) : ∃ o, DGet H a (.int k) o ∧ P o := ⟨_, DGet.k (k := .inl k) e, q⟩
/-- a for over the keys of a dict that is written nowhere in it -/
theorem forD {td : TE} {g : TG} {tb : TS} {a : Addr} {kvs : List (Key × V)} (hd : H a = some (.dK kvs)) (et : ∀ (H1 : Hp) (Q : VK), Q (.ref a) H1 → td σ H1 Q) (Pv : Nat → L2.St → Hp → Prop)
    (h0 : ∀ od, Pv 0 σ (upd H a (.frz od (.dK kvs)))) (hs : ∀ od i k v σ H, kvs[i]? = some (k, v) → H a = some (.frz od (.dK kvs)) → Pv i σ H → g (kV k) σ H fun σ2 H2 => tb { nx := fun σ' H' => H' a = some (.frz od (.dK kvs)) ∧ Pv (i + 1) σ' H', rt := fun v H' => H' a = some (.frz od (.dK kvs)) ∧ D.rt v (upd H' a (.dK kvs)), bk := fun σ' H' => H' a = some (.frz od (.dK kvs)) ∧ D.nx σ' (upd H' a (.dK kvs)), ct := fun σ' H' => H' a = some (.frz od (.dK kvs)) ∧ Pv (i + 1) σ' H' } σ2 H2)
    (hn : ∀ od σ H, H a = some (.frz od (.dK kvs)) → Pv kvs.length σ H → D.nx σ (upd H a (.dK kvs))) : tLock (tFor (iKeys td) g tb) D σ H := by
  refine ⟨a, .dK kvs, hd, trivial, fun od => ?_⟩
  refine et _ _ ⟨a, od, rfl, .inl ⟨kvs, upd_same, ?_⟩⟩
  exact for_it walk_keys (fun i σ H => H a = some (.frz od (.dK kvs)) ∧ Pv i σ H) ⟨upd_same, h0 od⟩ (fun i σ H _ h => h.1)
    (fun i x σ H H' hi ⟨h1, h2⟩ ⟨e, k, v, hk, hx⟩ => by cases e; cases hx; exact hs od i k v σ H hk h1 h2) (fun σ H ⟨h1, h2⟩ => ⟨h1, hn od σ H h1 h2⟩)
def nListD : List V → Hp → VK → Prop := fun xs H Q => ∃ p kvs, xs = [.ref p] ∧ H p = some (.dK kvs) ∧ ∀ q, H q = none → Q (.ref q) (upd H q (.lst (kvs.map fun kv => kV kv.1)))
theorem listD {a : Addr} {kvs : List (Key × V)} {Q : VK} (e : H a = some (.dK kvs)) (h : NewQ (.lst (kvs.map fun kv => kV kv.1)) Q H) : rListD [.ref a] H Q := ⟨a, kvs, rfl, e, h⟩
/-! ### joins -/
theorem m1 {r : V → List V → Hp → VK → Prop} {to te : TE} {Q : VK} (h : to σ H fun x H1 => (∃ a, x = .str a) ∧ te σ H1 fun y H2 => r x [y] H2 Q) : tM1 r to te σ H Q := h
theorem strX {a : Str} {R : Prop} (h : R) : (∃ b, V.str a = .str b) ∧ R := ⟨⟨a, rfl⟩, h⟩
theorem join {a : Str} {p : Addr} {ys : List Str} {Q : VK} (hp : SqL K H p (ys.map V.str) ∨ SqT K H p (ys.map V.str)) (hz : (ys.map (·.length)).sum + ys.length * a.length ≤ 16777216) (h : Q (.str (Txt.join a ys)) H) :
    ∃ a' p', ∃ ys' : List Str, V.str a = .str a' ∧ [V.ref p] = [.ref p'] ∧ (SqL K H p' (ys'.map V.str) ∨ SqT K H p' (ys'.map V.str)) ∧ (ys'.map (·.length)).sum + ys'.length * a'.length ≤ 16777216 ∧ Q (.str (Txt.join a' ys')) H := ⟨a, p, ys, rfl, rfl, hp, hz, h⟩
/-! ### own objects -/
def FldG (K : PySem.W.Frag) (f : Str) : V → Hp → VK → Prop := fun x H1 Q => ∃ a C dx fs v, x = .ref a ∧ H1 a = some (.ins C dx fs) ∧ Cls K C ∧ NoAttr K C f ∧ fs.lookup f = some v ∧ Q v H1
theorem fldH {ta : TE} {f : Str} {Q : VK} (h : ta σ H fun x H1 => FldG K f x H1 Q) : tFld K ta f σ H Q := h
theorem fld {f : Str} {a C dx : Addr} {fs : List (Str × V)} {v : V} {Q : VK} (e : H a = some (.ins C dx fs)) (c : Cls K C) (n : NoAttr K C f) (l : fs.lookup f = some v) (q : Q v H) : FldG K f (.ref a) H Q := ⟨a, C, dx, fs, v, rfl, e, c, n, l, q⟩
def FldS (K : PySem.W.Frag) (f : Str) (y : V) : V → Hp → (Hp → Prop) → Prop := fun x H2 Q => ∃ a C dx fs, x = .ref a ∧ H2 a = some (.ins C dx fs) ∧ Cls K C ∧ NoAttr K C f ∧ fs.length < 1000 ∧ Q (upd H2 a (.ins C dx (putF f y fs)))
theorem sfldH {ta tv : TE} {f : Str} (h : tv σ H fun y H1 => ta σ H1 fun x H2 => FldS K f y x H2 (D.nx σ)) : sFld K ta tv f D σ H := h
theorem sfld {f : Str} {a C dx : Addr} {fs fs' : List (Str × V)} {y : V} {Q : Hp → Prop} (e : H a = some (.ins C dx fs)) (c : Cls K C) (n : NoAttr K C f) (l : fs.length < 1000) (hf : putF f y fs = fs') (q : ∀ G : Hp, G a = some (.ins C dx fs') → (∀ b, b ≠ a → G b = H b) → Q G) : FldS K f y (.ref a) H Q :=
  ⟨a, C, dx, fs, rfl, e, c, n, l, hf ▸ q _ upd_same fun b hb => upd_ne hb⟩
def MkG (C : Addr) (sp : Sp) (dvs : List V) (E : XK) (vs : List V) (H1 : Hp) (Q : VK) : Prop := ∀ x dx, H1 x = none → H1 dx = none → dx ≠ x → sp (.ref x :: (vs ++ dvs)) (upd (upd H1 dx (.own x)) x (.ins C dx [])) (fun v H2 => v = .non ∧ Q (.ref x) H2) E
theorem mkH {C : Addr} {sp : Sp} {dvs : List V} {E : XK} {t : TA} {Q : VK} (h : t σ H fun vs H1 => MkG C sp dvs E vs H1 Q) : tMake C sp dvs E t σ H Q := h
theorem mk {C : Addr} {sp : Sp} {dvs : List V} {E : XK} {vs : List V} {Q : VK} (h : ∀ (x dx : Addr) (G : Hp), H x = none → H dx = none → dx ≠ x → G x = some (.ins C dx []) → Same H G → (∀ b, b ≠ x → b ≠ dx → G b = H b) → sp (.ref x :: (vs ++ dvs)) G (fun v H2 => v = .non ∧ Q (.ref x) H2) E) : MkG C sp dvs E vs H Q := fun x dx hx hd hne =>
  h x dx _ hx hd hne upd_same (fun b o e => by rw [upd_ne (ne_of_none e hx), upd_ne (ne_of_none e hd)]; exact e) fun b h1 h2 => by rw [upd_ne h1, upd_ne h2]
def MethG (C : Addr) (m : Str) (x : V) (H : Hp) (Q : Prop) : Prop := ∃ a dx fs, x = .ref a ∧ H a = some (.ins C dx fs) ∧ fs.lookup m = none ∧ Q
theorem methH {C : Addr} {m : Str} {sp : Sp} {dvs : List V} {E : XK} {ta : TE} {t : TA} {Q : VK} (h : ta σ H fun x H1 => MethG C m x H1 (t σ H1 fun vs H2 => sp (x :: (vs ++ dvs)) H2 Q E)) : tMeth C m sp dvs E ta t σ H Q := h
theorem meth {C : Addr} {m : Str} {a dx : Addr} {fs : List (Str × V)} {Q : Prop} (e : H a = some (.ins C dx fs)) (l : fs.lookup m = none) (q : Q) : MethG C m (.ref a) H Q := ⟨a, dx, fs, rfl, e, l, q⟩
/-! ### isinstance -/
theorem isi {x : V} {a b : String} {r : Bool} {Q : VK} (ht : TyX K H x (.type a)) (h : kitB a b = some r) (q : Q (.bl r) H) : rIsi K [x, .ty b] H Q := ⟨_, _, _, _, r, rfl, .ty b, ht, kit_ty h, q⟩
theorem isiStr {z : Str} {Q : VK} (q : Q (.bl true) H) : rIsi K [.str z, .ty "str"] H Q := isi (.base (.str z)) (by decide +kernel) q
theorem isiB {z : Bool} {Q : VK} (q : Q (.bl true) H) : rIsi K [.bl z, .ty "bool"] H Q := isi (.base (.bl z)) (by decide +kernel) q
theorem isiI {z : Int} {Q : VK} (q : Q (.bl true) H) : rIsi K [.int z, .ty "int"] H Q := isi (.base (.int z)) (by decide +kernel) q
theorem isiIB {z : Int} {Q : VK} (q : Q (.bl false) H) : rIsi K [.int z, .ty "bool"] H Q := isi (.base (.int z)) (by decide +kernel) q
end Rd
namespace W
open PySem PySem.Spec PyProof.Rows L2
theorem kit_self {K : PySem.W.Frag} {C : Addr} : PySem.W.kitOne K (.ref C) (.ref C) = some true := by
  unfold PySem.W.kitOne
  simp
/-- what isinstance asks of an own class -/
structure OwnTy (K : PySem.W.Frag) (C : Addr) : Prop where
  ha : PySem.W.findIn K (.ref C) "__class__" = some (some (.builtin "object.__class__"))
  hn : PySem.W.specialIn K (.builtin "object.__class__") "__get__" = some (some (.builtin "getset_descriptor.__get__"))
  htk : PySem.W.takesIn K (.builtin "object.__class__") = some true
  hm : PySem.W.mroIn K C (.type "object") = some true
  me : PySem.W.kitOne K (.ref C) (.ref C) = some true
theorem isiOwn {K : PySem.W.Frag} {H : Hp} {a C dx : Addr} {fs : List (Str × V)} {Q : VK} (c : Cls K C) (o : OwnTy K C) (e : H a = some (.ins C dx fs)) (q : Q (.bl true) H) : rIsi K [.ref a, .ref C] H Q :=
  ⟨_, _, _, _, true, rfl, .own C, .base (.ins e c o.ha o.hn o.htk o.hm), o.me, q⟩
end W
/-! ### letters -/
namespace Lt
open PySem PySem.Spec PyProof.Rows L2
def Abc : Str := "abcdefghijklmnopqrstuvwxyz"
def Let (z : Str) : Prop := ∀ c ∈ z.cps.toList, c ∈ Abc.cps.toList
theorem Let.app {a b : Str} (x : Let a) (y : Let b) : Let (a ++ b) := fun c h => by
  have : c ∈ a.cps.toList ++ b.cps.toList := by
    rw [← Array.toList_append]
    exact h
  exact (List.mem_append.mp this).elim (x c) (y c)
theorem len_app (a b : Str) : (a ++ b).length = a.length + b.length := Array.size_append
theorem Let.cut {z : Str} (x : Let z) (lo hi : Option Int) : Let (cutS z lo hi) := fun c h => x c (List.mem_of_mem_drop (List.mem_of_mem_take (show c ∈ (z.cps.toList.drop _).take _ from by simpa [cutS] using h)))
theorem Let.one {c : Nat} (h : c ∈ Abc.cps.toList) : Let ⟨#[c]⟩ := fun d hd => by
  have : d = c := by simpa using hd
  exact this ▸ h
theorem Let.empty : Let "" := fun c h => by exact absurd h (by decide +revert)
theorem Let.ok {z : Str} (x : Let z) : PyData.strOk z = true := by
  unfold PyData.strOk
  rw [Array.all_eq_true']
  intro c hc
  have h := x c (by simpa using hc)
  have : ∀ c ∈ Abc.cps.toList, decide (c < 0x110000) = true := by decide +kernel
  exact this c h
theorem Let.char {z : Str} (x : Let z) {c : Nat} {i : Nat} (h : z.cps.toList[i]? = some c) : c ∈ Abc.cps.toList := x c (List.mem_of_getElem? h)
theorem cut_len {z : Str} {a b : Nat} (h : a ≤ b) (hb : b ≤ z.length) : (cutS z (some (a : Int)) (some (b : Int))).length = b - a := by
  show (((z.cps.toList.drop (HT.sIx z.length 0 (some (a : Int)))).take (HT.sIx z.length z.length (some (b : Int)) - HT.sIx z.length 0 (some (a : Int)))).toArray).size = b - a
  rw [List.size_toArray, List.length_take, List.length_drop, Array.length_toList, HT.sIx_nat, HT.sIx_nat]
  unfold Str.length at hb ⊢
  omega
theorem cut_lenI {z : Str} {a b : Int} (h0 : 0 ≤ a) (h : a ≤ b) (hb : b ≤ z.length) : ((cutS z (some a) (some b)).length : Int) = b - a := by
  have := cut_len (z := z) (a := a.toNat) (b := b.toNat) (by omega) (by omega)
  rw [show ((a.toNat : Nat) : Int) = a by omega, show ((b.toNat : Nat) : Int) = b by omega] at this
  omega
theorem cut_from {z : Str} {a : Int} (h0 : 0 ≤ a) (h : a ≤ z.length) : ((cutS z (some a) none).length : Int) = z.length - a := by
  have e : (cutS z (some a) none).length = z.length - a.toNat := by
    show (((z.cps.toList.drop (HT.sIx z.length 0 (some a))).take (HT.sIx z.length z.length none - HT.sIx z.length 0 (some a))).toArray).size = _
    have e1 : HT.sIx z.length 0 (some a) = a.toNat := by
      have := HT.sIx_nat z.length 0 a.toNat
      rw [show ((a.toNat : Nat) : Int) = a by omega] at this
      rw [this]
      omega
    rw [List.size_toArray, List.length_take, List.length_drop, Array.length_toList, e1]
    show min (z.length - a.toNat) (z.cps.size - a.toNat) = _
    unfold Str.length
    omega
  omega
theorem cut_to {z : Str} {b : Int} (h0 : 0 ≤ b) : ((cutS z none (some b)).length : Int) = min b z.length := by
  have e : (cutS z none (some b)).length = min b.toNat z.length := by
    show (((z.cps.toList.drop (HT.sIx z.length 0 none)).take (HT.sIx z.length z.length (some b) - HT.sIx z.length 0 none)).toArray).size = _
    have e1 : HT.sIx z.length z.length (some b) = min b.toNat z.length := by
      have := HT.sIx_nat z.length z.length b.toNat
      rw [show ((b.toNat : Nat) : Int) = b by omega] at this
      exact this
    have e2 : HT.sIx z.length 0 none = 0 := rfl
    rw [List.size_toArray, List.length_take, List.length_drop, Array.length_toList, e1, e2]
    unfold Str.length
    omega
  omega
theorem join_let : ∀ ys : List Str, (∀ y ∈ ys, Let y) → Let (Str.join "" ys) ∧ (Str.join "" ys).length = (ys.map (·.length)).sum
  | [], _ => ⟨fun c h => by exact absurd h (by decide +revert), by decide +kernel⟩
  | [y], h => ⟨h y (by simp), by simp [Str.join]⟩
  | y :: z :: r, h => by
    have ih := join_let (z :: r) fun x hx => h x (List.mem_cons_of_mem _ hx)
    have e : Str.join "" (y :: z :: r) = y ++ "" ++ Str.join "" (z :: r) := rfl
    rw [e]
    refine ⟨((h y List.mem_cons_self).app Let.empty).app ih.1, ?_⟩
    rw [len_app, len_app, ih.2, show (Str.ofString "").length = 0 by decide +kernel]
    show y.length + 0 + _ = (y.length :: (z :: r).map (·.length)).sum
    rw [List.sum_cons]
    rfl
theorem join_one {ys : List Str} {n : Nat} (hl : ys.length = n) (h : ∀ y ∈ ys, Let y ∧ y.length = 1) : Let (Txt.join "" ys) ∧ (Txt.join "" ys).length = n ∧ (ys.map (·.length)).sum = n := by
  have j := join_let ys fun y hy => (h y hy).1
  have e : (ys.map (·.length)).sum = ys.length := by
    clear j hl
    induction ys with
    | nil => rfl
    | cons y r ih => rw [List.map_cons, List.sum_cons, ih fun x hx => h x (List.mem_cons_of_mem _ hx), (h y List.mem_cons_self).2, List.length_cons]; omega
  rw [TL.join_eq]
  exact ⟨j.1, by rw [j.2, e, hl], by rw [e, hl]⟩
theorem ne_of_len {z : Str} (h : 0 < z.length) : ¬ z = "" := fun e => by
  subst e
  exact absurd h (by decide +revert)
theorem len_of_ne {z : Str} (h : ¬ z = "") : 0 < z.length := by
  rcases Nat.eq_zero_or_pos z.length with e | e
  · exfalso
    refine h ?_
    have : z.cps = #[] := Array.eq_empty_of_size_eq_zero e
    cases z
    simp only at this
    subst this
    decide +kernel
  · exact e
/-- a word: some letters, at least one, at most n -/
structure Wd (n : Int) (z : Str) : Prop where
  ok : Let z
  l0 : 1 ≤ z.length
  l1 : (z.length : Int) ≤ n
theorem Wd.mono {n m : Int} {z : Str} (h : Wd n z) (k : n ≤ m) : Wd m z := ⟨h.ok, h.l0, Int.le_trans h.l1 k⟩
theorem Wd.line {n : Int} {z : Str} (h : Wd n z) (k : n ≤ 1000000) : z.length ≤ sizeLine := by
  have := h.l1
  rw [sizeLine_eq]
  omega
end Lt
namespace W
open PySem PySem.Spec PyProof.Rows L2
/-! ### the tape, books -/
def Tape (H : Hp) (t c : Addr) : Prop := ∃ (ns : List Int) (x y z u : Int), t ≠ c ∧ H t = some (.lst [.ref c, .int x, .int y, .int z, .int u]) ∧ H c = some (.lst (ns.map V.int)) ∧ 0 ≤ x ∧ x ≤ ns.length ∧ 0 ≤ z ∧ z < 2147483647
theorem Tape.same {H H' : Hp} {t c : Addr} (h : Tape H t c) (s : Same H H') : Tape H' t c := by
  obtain ⟨ns, x, y, z, u, n, h1, h2, r⟩ := h
  exact ⟨ns, x, y, z, u, n, s _ _ h1, s _ _ h2, r⟩
theorem Tape.off {H H' : Hp} {t c l : Addr} (h : Tape H t c) (h1 : l ≠ t) (h2 : l ≠ c) (e : ∀ b, b ≠ l → H' b = H b) : Tape H' t c := by
  obtain ⟨ns, x, y, z, u, n, g1, g2, r⟩ := h
  exact ⟨ns, x, y, z, u, n, by rw [e t h1.symm]; exact g1, by rw [e c h2.symm]; exact g2, r⟩
theorem Tape.new {H : Hp} {t c l : Addr} (h : Tape H t c) (n : H l = none) : l ≠ t ∧ l ≠ c := by
  obtain ⟨ns, x, y, z, u, _, g1, g2, r⟩ := h
  exact ⟨(ne_of_none g1 n).symm, (ne_of_none g2 n).symm⟩
theorem _root_.Rd.tape_same {H H' : Hp} {t c : Addr} (s : Same H H') (h : Tape H t c) : Tape H' t c := h.same s
theorem _root_.Rd.ntT {H : Hp} {t c l : Addr} (n : H l = none) (h : Tape H t c) : l ≠ t := (h.new n).1
theorem _root_.Rd.ntT' {H : Hp} {t c l : Addr} (n : H l = none) (h : Tape H t c) : l ≠ c := (h.new n).2
/-- some watches: no two alike, at most twelve, each of some letters -/
structure Watches (ws : List Str) : Prop where
  nd : ws.Nodup
  l1 : ws.length ≤ 12
  ok : ∀ z ∈ ws, Lt.Wd 12 z
/-- a book of the watches ws stands at b -/
def BookAt (C : Addr) (H : Hp) (b : Addr) (ws : List Str) : Prop := ∃ dx t, H b = some (.ins C dx [("watches", .ref t)]) ∧ H t = some (.tup (ws.map V.str))
theorem BookAt.same {C : Addr} {H H' : Hp} {b : Addr} {ws : List Str} (h : BookAt C H b ws) (s : Same H H') : BookAt C H' b ws := let ⟨dx, t, h1, h2⟩ := h; ⟨dx, t, s _ _ h1, s _ _ h2⟩
theorem BookAt.but {C t c : Addr} {H H' : Hp} {b : Addr} {ws : List Str} (h : BookAt C H b ws) (tp : Tape H t c) (s : Rd.But t H H') : BookAt C H' b ws := by
  obtain ⟨dx, q, h1, h2⟩ := h
  obtain ⟨ns, x, y, z, u, _, g1, g2, r⟩ := tp
  exact ⟨dx, q, s _ _ (ne_of h1 g1 (fun e => nomatch e)) h1, s _ _ (ne_of h2 g1 (fun e => nomatch e)) h2⟩
theorem snoc_nodup {α : Type} {ws : List α} {y : α} (nd : ws.Nodup) (q : ¬ y ∈ ws) : (ws ++ [y]).Nodup := by
  rw [List.nodup_append]
  exact ⟨nd, by simp, fun x hx z hz e => q (by simp at hz; rw [← hz, ← e]; exact hx)⟩
theorem _root_.Rd.book_same {C : Addr} {H H' : Hp} {b : Addr} {ws : List Str} (s : Same H H') (h : BookAt C H b ws) : BookAt C H' b ws := h.same s
theorem _root_.Rd.book_but {C t c : Addr} {H H' : Hp} {b : Addr} {ws : List Str} (s : Rd.But t H H') (tp : Tape H t c) (h : BookAt C H b ws) : BookAt C H' b ws := h.but tp s
end W
/-! ### what is kept, for the search by hypotheses -/
namespace Rd
open PySem PySem.Spec PyProof.Rows L2
variable {H H' : Hp} {K : PySem.W.Frag}
theorem neN {H : Hp} {a b : Addr} {o : HO} (h' : H b = none) (h : H a = some o) : a ≠ b := ne_of_none h h'
theorem neN' {H : Hp} {a b : Addr} {o : HO} (h' : H b = none) (h : H a = some o) : b ≠ a := (ne_of_none h h').symm
theorem same_tr {H H1 H2 : Hp} (b : Same H1 H2) (a : Same H H1) : Same H H2 := a.trans b
theorem but_tr {t : Addr} {H H1 H2 : Hp} (b : But t H1 H2) (a : But t H H1) : But t H H2 := a.trans b
theorem but_sm {t : Addr} {H H1 H2 : Hp} (b : Same H1 H2) (a : But t H H1) : But t H H2 := a.same b
theorem same_of2 {l : Addr} {H0 H H' : Hp} (off : ∀ b, b ≠ l → H' b = H b) (n : H0 l = none) (s : Same H0 H) : Same H0 H' := fun b o e => by rw [off b (ne_of_none e n)]; exact s b o e
theorem but_of2 {t l : Addr} {H0 H H' : Hp} (off : ∀ b, b ≠ l → H' b = H b) (n : H0 l = none) (s : But t H0 H) : But t H0 H' := fun b o h e => by rw [off b (ne_of_none e n)]; exact s b o h e
theorem at_same {a : Addr} {o : HO} (s : Same H H') (e : H a = some o) : H' a = some o := s a o e
theorem at_but {t a : Addr} {o : HO} (b : But t H H') (n : a ≠ t) (e : H a = some o) : H' a = some o := b a o n e
theorem at_off {l a : Addr} {o : HO} (off : ∀ b, b ≠ l → H' b = H b) (n : a ≠ l) (e : H a = some o) : H' a = some o := by rw [off a n]; exact e
theorem same_off {l : Addr} {H0 : Hp} (s : Same H0 H) (n : H0 l = none) (off : ∀ b, b ≠ l → H' b = H b) : Same H0 H' := fun b o e => by rw [off b (ne_of_none e n)]; exact s b o e
theorem but_off' {t l : Addr} {H0 : Hp} (s : But t H0 H) (n : H0 l = none) (off : ∀ b, b ≠ l → H' b = H b) : But t H0 H' := fun b o h e => by rw [off b (ne_of_none e n)]; exact s b o h e
theorem lenS {p : Addr} {ys : List Str} {H : Hp} {Q : VK} (hp : SqL K H p (ys.map V.str) ∨ SqT K H p (ys.map V.str)) (h : Q (.int (ys.length : Nat)) H) : nLen K [.ref p] H Q := ⟨p, _, rfl, hp, by rw [List.length_map]; exact h⟩
theorem lenI {p : Addr} {ys : List Int} {H : Hp} {Q : VK} (hp : SqL K H p (ys.map V.int) ∨ SqT K H p (ys.map V.int)) (h : Q (.int (ys.length : Nat)) H) : nLen K [.ref p] H Q := ⟨p, _, rfl, hp, by rw [List.length_map]; exact h⟩
theorem lenR {p : Addr} {ys : List Addr} {H : Hp} {Q : VK} (hp : SqL K H p (ys.map V.ref) ∨ SqT K H p (ys.map V.ref)) (h : Q (.int (ys.length : Nat)) H) : nLen K [.ref p] H Q := ⟨p, _, rfl, hp, by rw [List.length_map]; exact h⟩
end Rd

/-! Plain law: spots of a word, joined by watches that occur. -/
namespace Mw
open PySem PySem.Spec PyProof.Rows L2
/-- led on from x -/
inductive Star (R : Nat → Nat → Prop) (x : Nat) : Nat → Prop where
  | refl : Star R x x
  | step {y z : Nat} (h : Star R x y) (r : R y z) : Star R x z
theorem Star.one {R : Nat → Nat → Prop} {x y : Nat} (r : R x y) : Star R x y := .step .refl r
theorem Star.trans {R : Nat → Nat → Prop} {x y z : Nat} (a : Star R x y) (b : Star R y z) : Star R x z := by
  induction b with
  | refl => exact a
  | step _ r ih => exact .step ih r
theorem Star.symm {R : Nat → Nat → Prop} (s : ∀ x y, R x y → R y x) {x y : Nat} (a : Star R x y) : Star R y x := by
  induction a with
  | refl => exact .refl
  | step _ r ih => exact (Star.one (s _ _ r)).trans ih
theorem Star.mono {R S : Nat → Nat → Prop} (s : ∀ x y, R x y → S x y) {x y : Nat} (a : Star R x y) : Star S x y := by
  induction a with
  | refl => exact .refl
  | step _ r ih => exact .step ih (s _ _ r)
theorem Star.iff {R S : Nat → Nat → Prop} (s : ∀ x y, R x y ↔ S x y) {x y : Nat} : Star R x y ↔ Star S x y := ⟨Star.mono fun x y => (s x y).mp, Star.mono fun x y => (s x y).mpr⟩
/-- W occurs in z from s -/
def Occ (W z : Str) (s : Nat) : Prop := s + W.length ≤ z.length ∧ cutS z (some (s : Int)) (some ((s : Int) + (W.length : Int))) = W
/-- two spots joined by W, W from a spot below m -/
def EdgeB (W z : Str) (m : Nat) (i j : Nat) : Prop := (i < m ∧ Occ W z i ∧ j = i + W.length) ∨ (j < m ∧ Occ W z j ∧ i = j + W.length)
def Edge (W z : Str) (i j : Nat) : Prop := (Occ W z i ∧ j = i + W.length) ∨ (Occ W z j ∧ i = j + W.length)
def Adj (ws : List Str) (z : Str) (i j : Nat) : Prop := ∃ W ∈ ws, Edge W z i j
def AdjB (ws : List Str) (W z : Str) (m : Nat) (i j : Nat) : Prop := Adj ws z i j ∨ EdgeB W z m i j
/-- the watches tell the word -/
def Told (ws : List Str) (z : Str) : Prop := Star (Adj ws z) 0 z.length
theorem Edge.symm {W z : Str} {i j : Nat} (h : Edge W z i j) : Edge W z j i := h.elim .inr .inl
theorem Adj.symm {ws : List Str} {z : Str} (i j : Nat) (h : Adj ws z i j) : Adj ws z j i := let ⟨W, m, e⟩ := h; ⟨W, m, e.symm⟩
theorem EdgeB.symm {W z : Str} {m i j : Nat} (h : EdgeB W z m i j) : EdgeB W z m j i := h.elim .inr .inl
theorem AdjB.symm {ws : List Str} {W z : Str} {m : Nat} (i j : Nat) (h : AdjB ws W z m i j) : AdjB ws W z m j i := h.elim (fun h => .inl (Adj.symm _ _ h)) fun h => .inr h.symm
theorem Adj.le {ws : List Str} {z : Str} {i j : Nat} (h : Adj ws z i j) : i ≤ z.length ∧ j ≤ z.length := by
  obtain ⟨W, _, ⟨o, e⟩ | ⟨o, e⟩⟩ := h <;> have := o.1 <;> omega
theorem adj_nil {z : Str} {i j : Nat} : ¬ Adj [] z i j := fun ⟨_, h, _⟩ => by simp at h
theorem adjB_zero {ws : List Str} {W z : Str} {i j : Nat} : AdjB ws W z 0 i j ↔ Adj ws z i j := ⟨fun h => h.elim id fun h => by rcases h with ⟨h, _⟩ | ⟨h, _⟩ <;> omega, .inl⟩
theorem adjB_all {ws : List Str} {W z : Str} {i j : Nat} {n : Nat} (hn : (n : Int) = ((z.length : Int) - (W.length : Int) + 1).toNat) : AdjB ws W z n i j ↔ Adj (ws ++ [W]) z i j := by
  constructor
  · rintro (⟨V, h, e⟩ | ⟨_, o, e⟩ | ⟨_, o, e⟩)
    · exact ⟨V, List.mem_append.mpr (.inl h), e⟩
    · exact ⟨W, List.mem_append.mpr (.inr (by simp)), .inl ⟨o, e⟩⟩
    · exact ⟨W, List.mem_append.mpr (.inr (by simp)), .inr ⟨o, e⟩⟩
  · rintro ⟨V, h, e⟩
    rcases List.mem_append.mp h with h | h
    · exact .inl ⟨V, h, e⟩
    · simp at h
      subst h
      rcases e with ⟨o, e⟩ | ⟨o, e⟩
      · exact .inr (.inl ⟨by have := o.1; omega, o, e⟩)
      · exact .inr (.inr ⟨by have := o.1; omega, o, e⟩)
theorem adjB_no {ws : List Str} {W z : Str} {m : Nat} {i j : Nat} (h : ¬ Occ W z m) : AdjB ws W z (m + 1) i j ↔ AdjB ws W z m i j := by
  unfold AdjB EdgeB
  constructor
  · rintro (a | ⟨l, o, e⟩ | ⟨l, o, e⟩)
    · exact .inl a
    · rcases Nat.lt_succ_iff_lt_or_eq.mp l with l | l
      · exact .inr (.inl ⟨l, o, e⟩)
      · exact absurd (l ▸ o) h
    · rcases Nat.lt_succ_iff_lt_or_eq.mp l with l | l
      · exact .inr (.inr ⟨l, o, e⟩)
      · exact absurd (l ▸ o) h
  · rintro (a | ⟨l, o, e⟩ | ⟨l, o, e⟩)
    · exact .inl a
    · exact .inr (.inl ⟨by omega, o, e⟩)
    · exact .inr (.inr ⟨by omega, o, e⟩)
theorem adjB_yes {ws : List Str} {W z : Str} {m : Nat} {i j : Nat} (h : Occ W z m) : AdjB ws W z (m + 1) i j ↔ AdjB ws W z m i j ∨ (i = m ∧ j = m + W.length) ∨ (j = m ∧ i = m + W.length) := by
  unfold AdjB EdgeB
  constructor
  · rintro (a | ⟨l, o, e⟩ | ⟨l, o, e⟩)
    · exact .inl (.inl a)
    · rcases Nat.lt_succ_iff_lt_or_eq.mp l with l | l
      · exact .inl (.inr (.inl ⟨l, o, e⟩))
      · exact .inr (.inl ⟨l, by omega⟩)
    · rcases Nat.lt_succ_iff_lt_or_eq.mp l with l | l
      · exact .inl (.inr (.inr ⟨l, o, e⟩))
      · exact .inr (.inr ⟨l, by omega⟩)
  · rintro ((a | ⟨l, o, e⟩ | ⟨l, o, e⟩) | ⟨l, e⟩ | ⟨l, e⟩)
    · exact .inl a
    · exact .inr (.inl ⟨by omega, o, e⟩)
    · exact .inr (.inr ⟨by omega, o, e⟩)
    · subst l; exact .inr (.inl ⟨by omega, h, e⟩)
    · subst l; exact .inr (.inr ⟨by omega, h, e⟩)
/-! ### no two alike among few -/
theorem nodup_le {α : Type} [DecidableEq α] : ∀ (l m : List α), l.Nodup → (∀ x ∈ l, x ∈ m) → l.length ≤ m.length
  | [], _, _, _ => Nat.zero_le _
  | a :: t, m, nd, h => by
    have ⟨h1, h2⟩ := List.nodup_cons.mp nd
    have ha := h a List.mem_cons_self
    have := nodup_le t (m.erase a) h2 fun x hx => (List.mem_erase_of_ne fun e : x = a => h1 (by rw [← e]; exact hx)).mpr (h x (List.mem_cons_of_mem _ hx))
    rw [List.length_erase_of_mem ha] at this
    have := List.length_pos_of_mem ha
    rw [List.length_cons]
    omega
theorem nodup_range {l : List Int} {n : Nat} (nd : l.Nodup) (h : ∀ x ∈ l, 0 ≤ x ∧ x ≤ n) : l.length ≤ n + 1 := by
  have := nodup_le l ((List.range (n + 1)).map fun i : Nat => (i : Int)) nd fun x hx => by
    have := h x hx
    exact List.mem_map.mpr ⟨x.toNat, List.mem_range.mpr (by omega), by omega⟩
  rw [List.length_map, List.length_range] at this
  exact this
/-! ### marks -/
/-- alike marks are led to one another, and the other way round -/
def Lab (R : Nat → Nat → Prop) (n : Nat) (ms : List Int) : Prop := ms.length = n + 1 ∧ ∀ i j (x y : Int), ms[i]? = some x → ms[j]? = some y → (x = y ↔ Star R i j)
theorem Lab.start {n : Nat} {R : Nat → Nat → Prop} (hR : ∀ i j, ¬ R i j) : Lab R n ((List.range (n + 1)).map fun i : Nat => (i : Int)) := by
  refine ⟨by simp, fun i j x y hx hy => ?_⟩
  have e1 : x = i := by
    rw [List.getElem?_map] at hx
    cases q : (List.range (n + 1))[i]? with
    | none => rw [q] at hx; cases hx
    | some k =>
      rw [q] at hx
      have : i = k := by
        have := List.getElem?_eq_some_iff.mp q
        obtain ⟨h, e⟩ := this
        simpa using e
      subst this
      exact (Option.some.inj hx).symm
  have e2 : y = j := by
    rw [List.getElem?_map] at hy
    cases q : (List.range (n + 1))[j]? with
    | none => rw [q] at hy; cases hy
    | some k =>
      rw [q] at hy
      have : j = k := by
        have := List.getElem?_eq_some_iff.mp q
        obtain ⟨h, e⟩ := this
        simpa using e
      subst this
      exact (Option.some.inj hy).symm
  subst e1 e2
  constructor
  · intro h
    have : i = j := by omega
    exact this ▸ .refl
  · intro h
    cases h with
    | refl => rfl
    | step _ r => exact absurd r (hR _ _)
theorem Lab.iff {R S : Nat → Nat → Prop} {n : Nat} {ms : List Int} (h : Lab R n ms) (s : ∀ x y, R x y ↔ S x y) : Lab S n ms := ⟨h.1, fun i j x y hx hy => (h.2 i j x y hx hy).trans (Star.iff s)⟩
/-- one more pair: alike already -/
theorem Lab.same {R S : Nat → Nat → Prop} {n : Nat} {ms : List Int} (h : Lab R n ms) {a b : Nat} {x : Int} (ha : ms[a]? = some x) (hb : ms[b]? = some x) (sy : ∀ x y, R x y → R y x) (s : ∀ i j, S i j ↔ R i j ∨ (i = a ∧ j = b) ∨ (j = a ∧ i = b)) : Lab S n ms := by
  refine ⟨h.1, fun i j u v hu hv => (h.2 i j u v hu hv).trans ⟨Star.mono fun i j r => (s i j).mpr (.inl r), fun q => ?_⟩⟩
  have ab : Star R a b := (h.2 a b x x ha hb).mp rfl
  clear hv
  induction q with
  | refl => exact .refl
  | step _ r ih =>
    rcases (s _ _).mp r with r | ⟨rfl, rfl⟩ | ⟨rfl, rfl⟩
    · exact .step ih r
    · exact ih.trans ab
    · exact ih.trans (ab.symm sy)
/-- .. not alike: the one mark gives way to the other -/
theorem Lab.join {R S : Nat → Nat → Prop} {n : Nat} {ms : List Int} (h : Lab R n ms) {a b : Nat} {x y : Int} (ha : ms[a]? = some x) (hb : ms[b]? = some y) (hR : ∀ i j, R i j → i ≤ n ∧ j ≤ n) (sy : ∀ x y, R x y → R y x) (s : ∀ i j, S i j ↔ R i j ∨ (i = a ∧ j = b) ∨ (j = a ∧ i = b)) :
    Lab S n (ms.map fun m => if m = y then x else m) := by
  refine ⟨by rw [List.length_map]; exact h.1, fun i j u v hu hv => ?_⟩
  have get : ∀ {i : Nat} {u : Int}, (ms.map fun m => if m = y then x else m)[i]? = some u → ∃ u0, ms[i]? = some u0 ∧ u = if u0 = y then x else u0 := fun {i u} hu => by
    rw [List.getElem?_map] at hu
    cases q : ms[i]? with
    | none => rw [q] at hu; cases hu
    | some k => rw [q] at hu; exact ⟨k, rfl, (Option.some.inj hu).symm⟩
  obtain ⟨u0, hu0, eu⟩ := get hu
  obtain ⟨v0, hv0, ev⟩ := get hv
  have up : ∀ {i j : Nat}, Star R i j → Star S i j := fun q => q.mono fun i j r => (s i j).mpr (.inl r)
  have ab : Star S a b := .one ((s a b).mpr (.inr (.inl ⟨rfl, rfl⟩)))
  have ba : Star S b a := .one ((s b a).mpr (.inr (.inr ⟨rfl, rfl⟩)))
  constructor
  · intro e
    by_cases c1 : u0 = y
    · have ib : Star S i b := up ((h.2 i b u0 y hu0 hb).mp c1)
      by_cases c2 : v0 = y
      · exact up ((h.2 i j u0 v0 hu0 hv0).mp (c1.trans c2.symm))
      · rw [if_pos c1] at eu
        rw [if_neg c2] at ev
        have aj : Star S a j := up ((h.2 a j x v0 ha hv0).mp (by omega))
        exact (ib.trans ba).trans aj
    · rw [if_neg c1] at eu
      by_cases c2 : v0 = y
      · rw [if_pos c2] at ev
        have bj : Star S b j := up ((h.2 b j y v0 hb hv0).mp c2.symm)
        have ia : Star S i a := up ((h.2 i a u0 x hu0 ha).mp (by omega))
        exact (ia.trans ab).trans bj
      · rw [if_neg c2] at ev
        exact up ((h.2 i j u0 v0 hu0 hv0).mp (by omega))
  · intro q
    have la : a ≤ n := by have := (List.getElem?_eq_some_iff.mp ha).1; have := h.1; omega
    have lb : b ≤ n := by have := (List.getElem?_eq_some_iff.mp hb).1; have := h.1; omega
    -- every spot on the way has its mark
    have key : ∀ {k : Nat}, Star S i k → ∀ w0 : Int, ms[k]? = some w0 → (if u0 = y then x else u0) = if w0 = y then x else w0 := by
      intro k q
      induction q with
      | refl =>
        intro w0 hw
        rw [hu0] at hw
        cases hw
        rfl
      | @step k l _ r ih =>
        intro w0 hw
        have inR : ∀ m : Nat, m ≤ n → ∃ m0, ms[m]? = some m0 := fun m hm => ⟨_, List.getElem?_eq_getElem (by have := h.1; omega)⟩
        rcases (s _ _).mp r with r | ⟨rfl, rfl⟩ | ⟨rfl, rfl⟩
        · obtain ⟨k0, hk⟩ := inR k (hR _ _ r).1
          rw [ih k0 hk, (h.2 k l k0 w0 hk hw).mpr (.one r)]
        · rw [ih x ha]
          rw [hb] at hw
          cases hw
          rw [if_pos rfl]
          split <;> rfl
        · rw [ih y hb]
          rw [ha] at hw
          cases hw
          rw [if_pos rfl]
          split <;> rfl
    rw [eu, ev]
    exact key q v0 hv0
end Mw

/-! Plain law: distances, the least of the shortest ways. -/
namespace Mz
open PySem PySem.Spec PyProof.Rows L2
/-- k steps from x to y -/
def Steps (A : Nat → Nat → Prop) : Nat → Nat → Nat → Prop
  | 0, x, y => x = y
  | k + 1, x, z => ∃ y, Steps A k x y ∧ A y z
/-- k steps and no fewer -/
def Dist (A : Nat → Nat → Prop) (x y k : Nat) : Prop := Steps A k x y ∧ ∀ j, j < k → ¬ Steps A j x y
variable {A : Nat → Nat → Prop}
theorem Steps.trans : ∀ {k j x y z : Nat}, Steps A j x y → Steps A k y z → Steps A (j + k) x z
  | 0, j, x, y, z, a, b => by cases b; exact a
  | k + 1, j, x, y, z, a, ⟨u, b, r⟩ => ⟨u, Steps.trans a b, r⟩
theorem Steps.one {x y : Nat} (r : A x y) : Steps A 1 x y := ⟨x, rfl, r⟩
theorem Steps.cons {k x y z : Nat} (r : A x y) (b : Steps A k y z) : Steps A (k + 1) x z := by
  have := Steps.trans (Steps.one r) b
  rwa [Nat.add_comm] at this
theorem Steps.uncons : ∀ {k x z : Nat}, Steps A (k + 1) x z → ∃ y, A x y ∧ Steps A k y z
  | 0, x, z, ⟨y, e, r⟩ => by cases e; exact ⟨z, r, rfl⟩
  | k + 1, x, z, ⟨y, s, r⟩ => let ⟨u, a, b⟩ := Steps.uncons s; ⟨u, a, y, b, r⟩
theorem Steps.symm (sy : ∀ x y, A x y → A y x) : ∀ {k x y : Nat}, Steps A k x y → Steps A k y x
  | 0, _, _, e => Eq.symm e
  | k + 1, x, z, ⟨y, s, r⟩ => Steps.cons (sy _ _ r) (Steps.symm sy s)
theorem Dist.inj {x y k j : Nat} (a : Dist A x y k) (b : Dist A x y j) : k = j := by
  rcases Nat.lt_trichotomy k j with h | h | h
  · exact absurd a.1 (b.2 k h)
  · exact h
  · exact absurd b.1 (a.2 j h)
theorem Steps.dist {x y : Nat} : ∀ {k : Nat}, Steps A k x y → ∃ d, d ≤ k ∧ Dist A x y d := by
  intro k
  induction k using Nat.strongRecOn with
  | _ k ih =>
    intro h
    by_cases c : ∃ j, j < k ∧ Steps A j x y
    · obtain ⟨j, hj, s⟩ := c
      obtain ⟨d, h1, h2⟩ := ih j hj s
      exact ⟨d, by omega, h2⟩
    · exact ⟨k, Nat.le_refl _, h, fun j hj s => c ⟨j, hj, s⟩⟩
theorem Dist.symm (sy : ∀ x y, A x y → A y x) {x y k : Nat} (h : Dist A x y k) : Dist A y x k := ⟨h.1.symm sy, fun j hj s => h.2 j hj (s.symm sy)⟩
theorem Dist.zero {x : Nat} : Dist A x x 0 := ⟨rfl, fun j h => by omega⟩
theorem Dist.zero_iff {x y : Nat} : Dist A x y 0 ↔ x = y := ⟨fun h => h.1, fun h => h ▸ Dist.zero⟩
/-- one step on from a spot k away, not nearer: k + 1 away -/
theorem Dist.next {x y z k : Nat} (h : Dist A x y k) (r : A y z) (no : ∀ j, j ≤ k → ¬ Dist A x z j) : Dist A x z (k + 1) :=
  ⟨⟨y, h.1, r⟩, fun j hj s => let ⟨d, h1, h2⟩ := s.dist; no d (by omega) h2⟩
/-- the spot ahead on a shortest way -/
theorem Dist.pred {x z k : Nat} (h : Dist A x z (k + 1)) : ∃ y, Dist A x y k ∧ A y z := by
  obtain ⟨y, s, r⟩ := h.1
  exact ⟨y, ⟨s, fun j hj s' => h.2 (j + 1) (by omega) ⟨y, s', r⟩⟩, r⟩
theorem Dist.all {x : Nat} : ∀ {k z : Nat}, Dist A x z k → ∀ j, j ≤ k → ∃ y, Dist A x y j
  | 0, z, h, j, hj => ⟨z, by rw [show j = 0 by omega]; exact h⟩
  | k + 1, z, h, j, hj => by
    by_cases c : j = k + 1
    · exact ⟨z, by rw [c]; exact h⟩
    · obtain ⟨y, hy, _⟩ := h.pred
      exact hy.all j (by omega)
theorem Steps.le {n : Nat} (hA : ∀ i j, A i j → j ≤ n) : ∀ {k x y : Nat}, x ≤ n → Steps A k x y → y ≤ n
  | 0, _, _, h, e => by cases e; exact h
  | _ + 1, _, _, _, ⟨_, _, r⟩ => hA _ _ r
/-- a shortest way within the spots 0 .. n has at most n steps -/
theorem Dist.le {n x z k : Nat} (hA : ∀ i j, A i j → j ≤ n) (hx : x ≤ n) (h : Dist A x z k) : k ≤ n := by
  have ex : ∀ m, m ≤ k + 1 → ∃ l : List Int, l.length = m ∧ l.Nodup ∧ ∀ v ∈ l, 0 ≤ v ∧ v ≤ n ∧ ∃ j, j < m ∧ Dist A x v.toNat j := by
    intro m
    induction m with
    | zero => exact fun _ => ⟨[], rfl, .nil, fun v h => by simp at h⟩
    | succ m ih =>
      intro hm
      obtain ⟨l, h1, h2, h3⟩ := ih (by omega)
      obtain ⟨y, hy⟩ := h.all m (by omega)
      have yl : y ≤ n := Steps.le hA hx hy.1
      refine ⟨(y : Int) :: l, by rw [List.length_cons, h1], List.nodup_cons.mpr ⟨fun q => ?_, h2⟩, fun v hv => ?_⟩
      · obtain ⟨_, _, j, hj, d⟩ := h3 _ q
        have := d.inj hy
        omega
      · rcases List.mem_cons.mp hv with rfl | hv
        · exact ⟨by omega, by omega, m, by omega, hy⟩
        · obtain ⟨a, b, j, hj, d⟩ := h3 v hv
          exact ⟨a, b, j, by omega, d⟩
  obtain ⟨l, h1, h2, h3⟩ := ex (k + 1) (Nat.le_refl _)
  have := Mw.nodup_range h2 fun v hv => ⟨(h3 v hv).1, (h3 v hv).2.1⟩
  omega
theorem star_steps {x y : Nat} : Mw.Star A x y ↔ ∃ k, Steps A k x y := by
  constructor
  · intro h
    induction h with
    | refl => exact ⟨0, rfl⟩
    | step _ r ih => let ⟨k, s⟩ := ih; exact ⟨k + 1, _, s, r⟩
  · rintro ⟨k, s⟩
    induction k generalizing y with
    | zero => cases s; exact .refl
    | succ k ih => let ⟨u, s, r⟩ := s; exact .step (ih s) r
theorem star_dist {x y : Nat} : Mw.Star A x y ↔ ∃ k, Dist A x y k := star_steps.trans ⟨fun ⟨_, s⟩ => let ⟨d, _, h⟩ := s.dist; ⟨d, h⟩, fun ⟨k, h⟩ => ⟨k, h.1⟩⟩
/-- the least of the shortest ways from x to n, step by step -/
inductive Gr (A : Nat → Nat → Prop) (n : Nat) : Nat → List Nat → Prop where
  | stop : Gr A n n [n]
  | step {x w d : Nat} {P : List Nat} (hx : Dist A x n (d + 1)) (r : A x w) (hw : Dist A w n d) (least : ∀ v, A x v → Dist A v n d → w ≤ v) (h : Gr A n w P) : Gr A n x (x :: P)
theorem Gr.inj {n : Nat} : ∀ {P P' : List Nat} {x : Nat}, Gr A n x P → Gr A n x P' → P = P' := by
  intro P P' x a
  induction a generalizing P' with
  | stop =>
    intro b
    cases b with
    | stop => rfl
    | step hx _ _ _ _ => have := hx.inj Dist.zero; omega
  | @step x w d P hx r hw least h ih =>
    intro b
    cases b with
    | stop => have := hx.inj Dist.zero; omega
    | @step _ w' d' P' hx' r' hw' least' h' =>
      have e : d = d' := by have := hx.inj hx'; omega
      subst e
      have : w = w' := by
        have := least w' r' hw'
        have := least' w r hw
        omega
      subst this
      rw [ih h']
/-- a least one is there -/
theorem least_of {P : Nat → Prop} {m : Nat} (h : P m) : ∃ w, P w ∧ ∀ v, P v → w ≤ v := by
  induction m using Nat.strongRecOn with
  | _ m ih =>
    by_cases c : ∃ v, v < m ∧ P v
    · obtain ⟨v, l, p⟩ := c
      exact ih v l p
    · exact ⟨m, h, fun v p => by
        rcases Nat.lt_or_ge v m with l | l
        · exact absurd ⟨v, l, p⟩ c
        · exact l⟩
/-! ### the order of ways -/
/-- not after, as tuples of one length are ordered -/
def lle : List Nat → List Nat → Prop
  | [], _ => True
  | _ :: _, [] => False
  | a :: p, b :: q => a < b ∨ (a = b ∧ lle p q)
theorem lle.refl : ∀ p, lle p p
  | [] => trivial
  | a :: p => .inr ⟨rfl, lle.refl p⟩
theorem lle.trans : ∀ {p q r}, lle p q → lle q r → lle p r
  | [], _, _, _, _ => trivial
  | _ :: _, [], _, h, _ => h.elim
  | _ :: _, _ :: _, [], _, h => h.elim
  | a :: p, b :: q, c :: r, h, k => by
    rcases h with h | ⟨rfl, h⟩
    · rcases k with k | ⟨rfl, k⟩
      · exact .inl (by omega)
      · exact .inl h
    · rcases k with k | ⟨rfl, k⟩
      · exact .inl k
      · exact .inr ⟨rfl, lle.trans h k⟩
theorem lle.total : ∀ p q, lle p q ∨ lle q p
  | [], _ => .inl trivial
  | _ :: _, [] => .inr trivial
  | a :: p, b :: q => by
    rcases Nat.lt_trichotomy a b with h | h | h
    · exact .inl (.inl h)
    · rcases lle.total p q with k | k
      · exact .inl (.inr ⟨h, k⟩)
      · exact .inr (.inr ⟨h.symm, k⟩)
    · exact .inr (.inl h)
theorem lle.anti : ∀ {p q}, lle p q → lle q p → p = q
  | [], [], _, _ => rfl
  | [], _ :: _, _, h => h.elim
  | _ :: _, [], h, _ => h.elim
  | a :: p, b :: q, h, k => by
    rcases h with h | ⟨rfl, h⟩
    · rcases k with k | ⟨k, _⟩ <;> omega
    · rcases k with k | ⟨_, k⟩
      · omega
      · rw [lle.anti h k]
theorem lle.snoc {v : Nat} : ∀ {p q : List Nat}, p.length = q.length → lle p q → lle (p ++ [v]) (q ++ [v])
  | [], [], _, _ => .inr ⟨rfl, trivial⟩
  | [], _ :: _, h, _ => by simp at h
  | _ :: _, [], h, _ => by simp at h
  | a :: p, b :: q, h, k => k.elim .inl fun ⟨e, k⟩ => .inr ⟨e, lle.snoc (by simpa using h) k⟩
theorem lle.unpre {q r : List Nat} : ∀ {p : List Nat}, lle (p ++ q) (p ++ r) → lle q r
  | [], h => h
  | a :: p, h => h.elim (fun h => by omega) fun ⟨_, h⟩ => lle.unpre (p := p) h
/-- a way from x to y -/
inductive Way (A : Nat → Nat → Prop) : Nat → Nat → List Nat → Prop where
  | one (x : Nat) : Way A x x [x]
  | cons {x w y : Nat} {P : List Nat} (r : A x w) (h : Way A w y P) : Way A x y (x :: P)
theorem Way.head {x y : Nat} {P : List Nat} (h : Way A x y P) : ∃ t, P = x :: t := by cases h <;> exact ⟨_, rfl⟩
theorem Way.snoc {x y z : Nat} {P : List Nat} (h : Way A x y P) (r : A y z) : Way A x z (P ++ [z]) := by
  induction h with
  | one x => exact .cons r (.one z)
  | cons r' _ ih => exact .cons r' (ih r)
theorem Way.unsnoc {x z : Nat} {P : List Nat} (h : Way A x z P) : P = [x] ∧ x = z ∨ ∃ y P', P = P' ++ [z] ∧ Way A x y P' ∧ A y z := by
  induction h with
  | one x => exact .inl ⟨rfl, rfl⟩
  | @cons x w z P r h ih =>
    rcases ih with ⟨rfl, rfl⟩ | ⟨y, P', rfl, h', r'⟩
    · exact .inr ⟨x, [x], rfl, .one x, r⟩
    · exact .inr ⟨y, x :: P', rfl, .cons r h', r'⟩
theorem Way.steps {x y : Nat} {P : List Nat} (h : Way A x y P) : ∃ k, P.length = k + 1 ∧ Steps A k x y := by
  induction h with
  | one x => exact ⟨0, rfl, rfl⟩
  | cons r _ ih => obtain ⟨k, e, s⟩ := ih; exact ⟨k + 1, by rw [List.length_cons, e], Steps.cons r s⟩
theorem Steps.way : ∀ {k x y : Nat}, Steps A k x y → ∃ P, Way A x y P ∧ P.length = k + 1
  | 0, x, y, e => by cases e; exact ⟨[x], .one x, rfl⟩
  | k + 1, x, z, ⟨y, s, r⟩ => let ⟨P, w, l⟩ := Steps.way s; ⟨P ++ [z], w.snoc r, by rw [List.length_append, l]; rfl⟩
/-- the least of the shortest ways -/
structure Best (A : Nat → Nat → Prop) (x y d : Nat) (P : List Nat) : Prop where
  way : Way A x y P
  ln : P.length = d + 1
  least : ∀ P', Way A x y P' → P'.length = d + 1 → lle P P'
theorem Best.tail {n x w d : Nat} {P : List Nat} (h : Best A x n (d + 1) (x :: P)) (r : A x w) (hw : Way A w n P) : Best A w n d P :=
  ⟨hw, by simpa using h.ln, fun P' h1 h2 => (h.least (x :: P') (.cons r h1) (by rw [List.length_cons, h2])).elim (fun q => by omega) fun q => q.2⟩
/-- .. is found step by step -/
theorem Best.gr {n : Nat} : ∀ {P : List Nat} {x d : Nat}, Dist A x n d → Best A x n d P → Gr A n x P
  | [], x, d, _, h => by have := h.ln; simp at this
  | [a], x, d, hd, h => by
    have l := h.ln
    have hw := h.way
    cases hw with
    | one => exact .stop
    | cons _ q => cases q
  | a :: b :: P, x, d, hd, h => by
    have l := h.ln
    have hw := h.way
    cases hw with
    | @cons _ w _ _ r q =>
      obtain ⟨t, e⟩ := q.head
      cases e
      obtain ⟨k, e1, s⟩ := q.steps
      cases d with
      | zero => simp at l
      | succ d =>
        have ek : k = d := by
          simp only [List.length_cons] at l e1
          omega
        subst ek
        have dw : Dist A b n k := ⟨s, fun j hj s' => hd.2 (j + 1) (by omega) (Steps.cons r s')⟩
        refine .step hd r dw (fun v rv dv => ?_) (Best.gr dw (h.tail r q))
        obtain ⟨P', w', l'⟩ := dv.1.way
        obtain ⟨t', e'⟩ := w'.head
        subst e'
        rcases h.least (a :: v :: t') (.cons rv w') (by rw [List.length_cons, l']) with z | ⟨_, z⟩
        · omega
        · rcases z with z | ⟨z, _⟩ <;> omega
/-- one step on: the least over the spots ahead -/
theorem Best.next {x z d : Nat} {P : List Nat} {y : Nat} (hP : Best A x y d P) (r : A y z)
    (least : ∀ y' P', Best A x y' d P' → A y' z → lle (P ++ [z]) (P' ++ [z])) (ex : ∀ y', Steps A d x y' → A y' z → ∃ P', Best A x y' d P') : Best A x z (d + 1) (P ++ [z]) := by
  refine ⟨hP.way.snoc r, by rw [List.length_append, hP.ln]; rfl, fun P' h1 h2 => ?_⟩
  rcases h1.unsnoc with ⟨rfl, rfl⟩ | ⟨y', Q, rfl, hq, r'⟩
  · simp at h2
  · obtain ⟨k, e, s⟩ := hq.steps
    rw [List.length_append, e] at h2
    have ek : k = d := by simp at h2; omega
    subst ek
    obtain ⟨P2, b2⟩ := ex y' s r'
    exact (least y' P2 b2 r').trans (lle.snoc (by rw [b2.ln, e]) (b2.least Q hq e))
end Mz

/-! Plain law: the classes of spots that lead to one another. -/
namespace Mc
open PySem PySem.Spec PyProof.Rows L2
open Classical
variable {A : Nat → Nat → Prop}
/-- ascending lists with the same members are the same -/
theorem lt_ext {α : Type} {R : α → α → Prop} (irr : ∀ x, ¬ R x x) (tr : ∀ x y z, R x y → R y z → R x z) : ∀ {l m : List α}, l.Pairwise R → m.Pairwise R → (∀ x, x ∈ l ↔ x ∈ m) → l = m
  | [], [], _, _, _ => rfl
  | [], y :: m, _, _, h => absurd ((h y).mpr (List.mem_cons_self ..)) (by simp)
  | x :: l, [], _, _, h => absurd ((h x).mp (List.mem_cons_self ..)) (by simp)
  | x :: l, y :: m, hl, hm, h => by
    obtain ⟨hx, hl2⟩ := List.pairwise_cons.mp hl
    obtain ⟨hy, hm2⟩ := List.pairwise_cons.mp hm
    have e : x = y := by
      rcases List.mem_cons.mp ((h x).mp (List.mem_cons_self ..)) with e | q
      · exact e
      · rcases List.mem_cons.mp ((h y).mpr (List.mem_cons_self ..)) with e | q2
        · exact e.symm
        · exact absurd (tr _ _ _ (hx y q2) (hy x q)) (irr x)
    subst e
    refine congrArg (x :: ·) (lt_ext irr tr hl2 hm2 fun z => ?_)
    constructor
    · intro q
      rcases List.mem_cons.mp ((h z).mp (List.mem_cons_of_mem _ q)) with e | r
      · rw [e] at q
        exact absurd (hx _ q) (irr _)
      · exact r
    · intro q
      rcases List.mem_cons.mp ((h z).mpr (List.mem_cons_of_mem _ q)) with e | r
      · rw [e] at q
        exact absurd (hy _ q) (irr _)
      · exact r
theorem int_ext {l m : List Int} (hl : l.Pairwise (· < ·)) (hm : m.Pairwise (· < ·)) (h : ∀ x, x ∈ l ↔ x ∈ m) : l = m := lt_ext (R := fun a b : Int => a < b) (fun x => by omega) (fun x y z h k => by omega) hl hm h
theorem star_le {n : Nat} (hA : ∀ i j, A i j → j ≤ n) {x y : Nat} (hx : x ≤ n) (h : Mw.Star A x y) : y ≤ n := by
  cases h with
  | refl => exact hx
  | step _ a => exact hA _ _ a
/-- the class of a spot, ascending -/
noncomputable def cls (A : Nat → Nat → Prop) (n s : Nat) : List Nat := (List.range (n + 1)).filter fun i => decide (Mw.Star A s i)
theorem mem_cls {n s i : Nat} : i ∈ cls A n s ↔ i ≤ n ∧ Mw.Star A s i := by
  unfold cls
  rw [List.mem_filter, List.mem_range, decide_eq_true_iff]
  constructor <;> exact fun ⟨a, b⟩ => ⟨by omega, b⟩
theorem cls_len (n s : Nat) : (cls A n s).length ≤ n + 1 := by
  have := List.length_filter_le (fun i => decide (Mw.Star A s i)) (List.range (n + 1))
  rwa [List.length_range] at this
theorem range_lt (n : Nat) : (List.range n).Pairwise (· < ·) := List.pairwise_lt_range
theorem cls_lt (n s : Nat) : ((cls A n s).map fun i : Nat => (i : Int)).Pairwise (· < ·) := by
  rw [List.pairwise_map]
  exact ((range_lt (n + 1)).sublist List.filter_sublist).imp fun h => by omega
/-- first of its class -/
def Rep (A : Nat → Nat → Prop) (s : Nat) : Prop := ∀ r, r < s → ¬ Mw.Star A r s
noncomputable def classesTo (A : Nat → Nat → Prop) (n i : Nat) : List (List Nat) := ((List.range i).filter fun s => decide (Rep A s)).map (cls A n)
theorem classesTo_succ (n i : Nat) : classesTo A n (i + 1) = classesTo A n i ++ if Rep A i then [cls A n i] else [] := by
  unfold classesTo
  rw [List.range_succ, List.filter_append, List.map_append]
  congr 1
  by_cases h : Rep A i
  · rw [if_pos h]; simp [h]
  · rw [if_neg h]; simp [h]
theorem classesTo_len (n i : Nat) : (classesTo A n i).length ≤ i := by
  unfold classesTo
  rw [List.length_map]
  have := List.length_filter_le (fun s => decide (Rep A s)) (List.range i)
  rwa [List.length_range] at this
theorem mem_classesTo {n i : Nat} {c : List Nat} : c ∈ classesTo A n i ↔ ∃ s, s < i ∧ Rep A s ∧ c = cls A n s := by
  unfold classesTo
  rw [List.mem_map]
  constructor
  · rintro ⟨s, h, rfl⟩
    rw [List.mem_filter, List.mem_range, decide_eq_true_iff] at h
    exact ⟨s, h.1, h.2, rfl⟩
  · rintro ⟨s, h1, h2, rfl⟩
    exact ⟨s, by rw [List.mem_filter, List.mem_range, decide_eq_true_iff]; exact ⟨h1, h2⟩, rfl⟩
theorem rep_below (sy : ∀ i j, A i j → A j i) {r i : Nat} (h : Mw.Star A r i) : ∃ s, s ≤ r ∧ Rep A s ∧ Mw.Star A s i := by
  induction r using Nat.strongRecOn with
  | _ r ih =>
    by_cases c : Rep A r
    · exact ⟨r, Nat.le_refl _, c, h⟩
    · have : ∃ q, q < r ∧ Mw.Star A q r := by
        false_or_by_contra
        rename_i no
        exact c fun q hq sq => no ⟨q, hq, sq⟩
      obtain ⟨q, hq, sq⟩ := this
      obtain ⟨s, h1, h2, h3⟩ := ih q hq (sq.trans h)
      exact ⟨s, by omega, h2, h3⟩
theorem rep_iff (sy : ∀ i j, A i j → A j i) {n i : Nat} (hi : i ≤ n) : Rep A i ↔ ∀ c ∈ classesTo A n i, i ∉ c := by
  constructor
  · intro h c hc m
    obtain ⟨s, h1, _, rfl⟩ := mem_classesTo.mp hc
    exact h s h1 (mem_cls.mp m).2
  · intro h r hr sr
    obtain ⟨s, h1, h2, h3⟩ := rep_below sy sr
    exact h _ (mem_classesTo.mpr ⟨s, by omega, h2, rfl⟩) (mem_cls.mpr ⟨hi, h3⟩)
theorem rep_zero : Rep A 0 := fun r h => by omega
theorem classes_head (n i : Nat) : ∃ r, classesTo A n (i + 1) = cls A n 0 :: r := by
  unfold classesTo
  rw [List.range_succ_eq_map, List.filter_cons, if_pos (by simpa using rep_zero), List.map_cons]
  exact ⟨_, rfl⟩
end Mc

/-! Plain law: ways with the fewest turns and, of these, the fewest steps. -/
namespace Mk
variable {A : Nat → Nat → Prop} {n : Nat}
/-- one turn if the direction changes -/
def tn (u d : Bool) : Nat := if d = u then 0 else 1
/-- a way from s, to which one comes in direction u, to n: its turns, its steps -/
inductive Cw (A : Nat → Nat → Prop) (n : Nat) : Nat → Bool → Nat → Nat → Prop where
  | stop (u : Bool) : Cw A n n u 0 0
  | step {s o t k : Nat} {u : Bool} (ne : s ≠ n) (a : A s o) (h : Cw A n o (decide (s < o)) t k) : Cw A n s u (t + tn u (decide (s < o))) (k + 1)
/-- not more: turns first, then steps -/
def lx (p q : Nat × Nat) : Prop := p.1 < q.1 ∨ (p.1 = q.1 ∧ p.2 ≤ q.2)
theorem lx.refl (p : Nat × Nat) : lx p p := .inr ⟨rfl, Nat.le_refl _⟩
theorem lx.trans {p q r : Nat × Nat} (h : lx p q) (k : lx q r) : lx p r := by unfold lx at *; omega
theorem lx.anti {p q : Nat × Nat} (h : lx p q) (k : lx q p) : p = q := by
  unfold lx at *
  exact Prod.ext (by omega) (by omega)
theorem lx.total (p q : Nat × Nat) : lx p q ∨ lx q p := by unfold lx; omega
theorem lx_zero (p : Nat × Nat) : lx (0, 0) p := by unfold lx; simp; omega
/-- the step ahead -/
def add (u d : Bool) (p : Nat × Nat) : Nat × Nat := (p.1 + tn u d, p.2 + 1)
theorem lx_add {u d : Bool} {p q : Nat × Nat} : lx (add u d p) (add u d q) ↔ lx p q := by
  unfold lx add
  simp only
  omega
def Least (A : Nat → Nat → Prop) (n s : Nat) (u : Bool) (p : Nat × Nat) : Prop := Cw A n s u p.1 p.2 ∧ ∀ t k, Cw A n s u t k → lx p (t, k)
theorem Least.inj {s : Nat} {u : Bool} {p q : Nat × Nat} (h : Least A n s u p) (k : Least A n s u q) : p = q := (h.2 _ _ k.1).anti (k.2 _ _ h.1)
theorem least_ex {s t k : Nat} {u : Bool} (h : Cw A n s u t k) : ∃ p, Least A n s u p := by
  obtain ⟨t0, ⟨k1, h1⟩, m1⟩ := Mz.least_of (P := fun t => ∃ k, Cw A n s u t k) ⟨k, h⟩
  obtain ⟨k0, h0, m0⟩ := Mz.least_of (P := fun k => Cw A n s u t0 k) h1
  refine ⟨(t0, k0), h0, fun t' k' h' => ?_⟩
  have a := m1 t' ⟨k', h'⟩
  rcases Nat.lt_or_ge t0 t' with c | c
  · exact .inl c
  · have e : t' = t0 := by omega
    subst e
    exact .inr ⟨rfl, m0 k' h'⟩
theorem cw_n {u : Bool} {t k : Nat} (h : Cw A n n u t k) : t = 0 ∧ k = 0 := by
  cases h with
  | stop => exact ⟨rfl, rfl⟩
  | step ne => exact absurd rfl ne
/-- the step on, and what is left -/
theorem Cw.next {s t k : Nat} {u : Bool} (h : Cw A n s u t k) (ne : s ≠ n) : ∃ o q, A s o ∧ Cw A n o (decide (s < o)) q.1 q.2 ∧ (t, k) = add u (decide (s < o)) q := by
  cases h with
  | stop => exact absurd rfl ne
  | @step _ o t k _ _ a h => exact ⟨o, (t, k), a, h, rfl⟩
theorem Least.next {s : Nat} {u : Bool} {p : Nat × Nat} (h : Least A n s u p) (ne : s ≠ n) : ∃ o q, A s o ∧ Least A n o (decide (s < o)) q ∧ p = add u (decide (s < o)) q := by
  obtain ⟨o, q, a, c, e⟩ := h.1.next ne
  have e' : p = add u (decide (s < o)) q := e
  refine ⟨o, q, a, ⟨c, fun t k c' => ?_⟩, e'⟩
  have := h.2 _ _ (Cw.step ne a c')
  rw [e'] at this
  exact lx_add.mp this
def code (s : Nat) (u : Bool) : Int := 2 * s + (if u then 1 else 0)
theorem code_inj {s s' : Nat} {u u' : Bool} (h : code s u = code s' u') : s = s' ∧ u = u' := by
  unfold code at h
  cases u <;> cases u' <;> simp at h ⊢ <;> omega
/-- a least way has few steps -/
theorem Least.le (hA : ∀ i j, A i j → j ≤ n) {s : Nat} {u : Bool} {p : Nat × Nat} (h : Least A n s u p) (sn : s ≤ n) : p.2 ≤ 2 * n + 1 := by
  have ex : ∀ m, ∀ s u (p : Nat × Nat), p.2 = m → s ≤ n → Least A n s u p → ∃ l : List Int, l.length = m + 1 ∧ l.Nodup ∧ ∀ v ∈ l, 0 ≤ v ∧ v ≤ ((2 * n + 1 : Nat) : Int) ∧ ∃ x b q, v = code x b ∧ Least A n x b q ∧ q.2 ≤ m := by
    intro m
    induction m with
    | zero =>
      intro s u p e sn h
      refine ⟨[code s u], rfl, by simp, fun v hv => ?_⟩
      rw [List.mem_singleton.mp hv]
      refine ⟨by unfold code; split <;> omega, by unfold code; split <;> omega, s, u, p, rfl, h, by omega⟩
    | succ m ih =>
      intro s u p e sn h
      have ne : s ≠ n := fun c => by
        subst c
        have := cw_n h.1
        omega
      obtain ⟨o, q, a, hq, ep⟩ := h.next ne
      have eq : q.2 = m := by
        rw [ep] at e
        unfold add at e
        simp only at e
        omega
      obtain ⟨l, h1, h2, h3⟩ := ih o _ q eq (hA _ _ a) hq
      refine ⟨code s u :: l, by rw [List.length_cons, h1], List.nodup_cons.mpr ⟨fun c => ?_, h2⟩, fun v hv => ?_⟩
      · obtain ⟨_, _, x, b, q', e1, e2, e3⟩ := h3 _ c
        obtain ⟨rfl, rfl⟩ := code_inj e1
        have := h.inj e2
        rw [this] at e
        omega
      · rcases List.mem_cons.mp hv with rfl | hv
        · exact ⟨by unfold code; split <;> omega, by unfold code; split <;> omega, s, u, p, rfl, h, by omega⟩
        · obtain ⟨h1, h2, x, b, q', e1, e2, e3⟩ := h3 v hv
          exact ⟨h1, h2, x, b, q', e1, e2, by omega⟩
  obtain ⟨l, h1, h2, h3⟩ := ex p.2 s u p rfl sn h
  have := Mw.nodup_range h2 fun v hv => ⟨(h3 v hv).1, (h3 v hv).2.1⟩
  omega
/-! ### what is known of the costs -/
abbrev Tab := Nat → Bool → Option (Nat × Nat)
def Sound (A : Nat → Nat → Prop) (n : Nat) (F : Tab) : Prop := ∀ s u p, s ≤ n → F s u = some p → Cw A n s u p.1 p.2
/-- all ways of at most r steps from s are covered -/
def Cov (A : Nat → Nat → Prop) (n : Nat) (F : Tab) (r s : Nat) (u : Bool) : Prop := ∀ t k, Cw A n s u t k → k ≤ r → ∃ p, F s u = some p ∧ lx p (t, k)
def Fall (F G : Tab) : Prop := ∀ s u p, F s u = some p → ∃ q, G s u = some q ∧ lx q p
theorem Fall.refl (F : Tab) : Fall F F := fun s u p h => ⟨p, h, lx.refl p⟩
theorem Fall.trans {F G H : Tab} (h : Fall F G) (k : Fall G H) : Fall F H := fun s u p e => by
  obtain ⟨q, e1, l1⟩ := h s u p e
  obtain ⟨r, e2, l2⟩ := k s u q e1
  exact ⟨r, e2, l2.trans l1⟩
theorem Cov.fall {F G : Tab} {r s : Nat} {u : Bool} (h : Cov A n F r s u) (f : Fall F G) : Cov A n G r s u := fun t k c l => by
  obtain ⟨p, e, lp⟩ := h t k c l
  obtain ⟨q, e2, lq⟩ := f s u p e
  exact ⟨q, e2, lq.trans lp⟩
/-- not below any step on -/
def Stab (A : Nat → Nat → Prop) (F : Tab) (s : Nat) (u : Bool) : Prop := ∀ o q, A s o → F o (decide (s < o)) = some q → ∃ p, F s u = some p ∧ lx p (add u (decide (s < o)) q)
/-- all is found -/
def Opt (A : Nat → Nat → Prop) (n : Nat) (F : Tab) : Prop := ∀ s u p, s ≤ n → (F s u = some p ↔ Least A n s u p)
theorem opt_of {F : Tab} (so : Sound A n F) (cov : ∀ s u, s ≤ n → ∀ t k, Cw A n s u t k → ∃ p, F s u = some p ∧ lx p (t, k)) : Opt A n F := fun s u p sn => by
  constructor
  · intro e
    refine ⟨so s u p sn e, fun t k c => ?_⟩
    obtain ⟨q, e2, l⟩ := cov s u sn t k c
    rw [e] at e2
    cases e2
    exact l
  · intro h
    obtain ⟨q, e2, l⟩ := cov s u sn _ _ h.1
    rw [e2, l.anti (h.2 _ _ (so s u q sn e2))]
theorem opt_stab (hA : ∀ i j, A i j → j ≤ n) {F : Tab} (so : Sound A n F) (z : ∀ u, F n u = some (0, 0)) (st : ∀ s u, s < n → Stab A F s u) : Opt A n F := by
  refine opt_of so fun s u sn t k c => ?_
  induction c with
  | stop u => exact ⟨(0, 0), z u, lx.refl _⟩
  | @step s o t k u ne a h ih =>
    obtain ⟨q, e, l⟩ := ih (hA _ _ a)
    obtain ⟨p, e2, l2⟩ := st s u (by omega) o q a e
    exact ⟨p, e2, l2.trans (lx_add.mpr l)⟩
theorem opt_cov (hA : ∀ i j, A i j → j ≤ n) {F : Tab} (so : Sound A n F) {r : Nat} (hr : 2 * n + 2 ≤ r) (cv : ∀ s u, s ≤ n → Cov A n F r s u) : Opt A n F := by
  refine opt_of so fun s u sn t k c => ?_
  obtain ⟨p, hp⟩ := least_ex c
  obtain ⟨q, e, l⟩ := cv s u sn _ _ hp.1 (by have := hp.le hA sn; omega)
  exact ⟨q, e, l.trans (hp.2 _ _ c)⟩
/-- covered by all steps on -/
theorem cov_next {F0 F : Tab} {r s : Nat} {u : Bool} {b : Option (Nat × Nat)} (hA : ∀ i j, A i j → j ≤ n) (sn : s < n) (cv : ∀ s u, s ≤ n → Cov A n F0 r s u) (f : Fall F0 F)
    (hb : ∀ o q, A s o → F o (decide (s < o)) = some q → ∃ p, b = some p ∧ lx p (add u (decide (s < o)) q)) : ∀ t k, Cw A n s u t k → k ≤ r + 1 → ∃ p, b = some p ∧ lx p (t, k) := fun t k c l => by
  obtain ⟨o, q, a, cq, e⟩ := c.next (by omega)
  have : q.2 ≤ r := by
    have := congrArg Prod.snd e
    unfold add at this
    simp only at this
    omega
  obtain ⟨p0, e0, l0⟩ := cv o _ (hA _ _ a) _ _ cq this
  obtain ⟨p1, e1, l1⟩ := f _ _ _ e0
  obtain ⟨p, ep, lp⟩ := hb o p1 a e1
  refine ⟨p, ep, ?_⟩
  rw [e]
  exact lp.trans (lx_add.mpr (l1.trans l0))
def put (F : Tab) (s : Nat) (u : Bool) (b : Option (Nat × Nat)) : Tab := fun s' u' => if s' = s ∧ u' = u then b else F s' u'
theorem put_same {F : Tab} {s : Nat} {u : Bool} {b : Option (Nat × Nat)} : put F s u b s u = b := if_pos ⟨rfl, rfl⟩
theorem put_ne {F : Tab} {s s' : Nat} {u u' : Bool} {b : Option (Nat × Nat)} (h : ¬ (s' = s ∧ u' = u)) : put F s u b s' u' = F s' u' := if_neg h
theorem put_self {F : Tab} {s : Nat} {u : Bool} : put F s u (F s u) = F := by
  funext s' u'
  by_cases h : s' = s ∧ u' = u
  · obtain ⟨rfl, rfl⟩ := h
    exact put_same
  · exact put_ne h
theorem put_fall {F : Tab} {s : Nat} {u : Bool} {b : Option (Nat × Nat)} (h : ∀ p, F s u = some p → ∃ q, b = some q ∧ lx q p) : Fall F (put F s u b) := fun s' u' p e => by
  by_cases c : s' = s ∧ u' = u
  · obtain ⟨rfl, rfl⟩ := c
    obtain ⟨q, e1, l⟩ := h p e
    exact ⟨q, by rw [put_same]; exact e1, l⟩
  · exact ⟨p, by rw [put_ne c]; exact e, lx.refl p⟩
/-! ### the least way, found step by step -/
inductive Gc (A : Nat → Nat → Prop) (n : Nat) : Nat → Bool → List Nat → Prop where
  | stop (u : Bool) : Gc A n n u [n]
  | step {s o : Nat} {u : Bool} {p q : Nat × Nat} {P : List Nat} (ne : s ≠ n) (hs : Least A n s u p) (a : A s o) (ho : Least A n o (decide (s < o)) q) (e : p = add u (decide (s < o)) q)
      (least : ∀ v q', A s v → Least A n v (decide (s < v)) q' → p = add u (decide (s < v)) q' → o ≤ v) (h : Gc A n o (decide (s < o)) P) : Gc A n s u (s :: P)
theorem Gc.inj : ∀ {P P' : List Nat} {s : Nat} {u : Bool}, Gc A n s u P → Gc A n s u P' → P = P' := by
  intro P P' s u a
  induction a generalizing P' with
  | stop u =>
    intro b
    cases b with
    | stop => rfl
    | step ne => exact absurd rfl ne
  | @step s o u p q P ne hs a ho e least h ih =>
    intro b
    cases b with
    | stop => exact absurd rfl ne
    | @step _ o' _ p' q' P' ne' hs' a' ho' e' least' h' =>
      have ep := hs.inj hs'
      subst ep
      have : o = o' := by
        have := least o' q' a' ho' e'
        have := least' o q a ho e
        omega
      subst this
      rw [ih h']
/-- turns of a row, coming in direction u -/
def turns : Bool → List Nat → Nat
  | u, x :: y :: r => tn u (decide (x < y)) + turns (decide (x < y)) (y :: r)
  | _, _ => 0
theorem Gc.cost {s : Nat} {u : Bool} {P : List Nat} (h : Gc A n s u P) : ∃ p, Least A n s u p ∧ turns u P = p.1 ∧ P.length = p.2 + 1 := by
  induction h with
  | stop u => exact ⟨(0, 0), ⟨.stop u, fun t k _ => lx_zero _⟩, rfl, rfl⟩
  | @step s o u p q P ne hs a ho e least h ih =>
    obtain ⟨q', hq, t1, l1⟩ := ih
    have := ho.inj hq
    subst this
    refine ⟨p, hs, ?_, ?_⟩
    · obtain ⟨r, hr⟩ : ∃ r, P = o :: r := by cases h <;> exact ⟨_, rfl⟩
      subst hr
      show tn u (decide (s < o)) + turns (decide (s < o)) (o :: r) = p.1
      rw [t1, e]
      unfold add
      simp only
      omega
    · rw [List.length_cons, l1, e]
      rfl
theorem Gc.head {s : Nat} {u : Bool} {P : List Nat} (h : Gc A n s u P) : ∃ r, P = s :: r := by cases h <;> exact ⟨_, rfl⟩
/-- there is a way just if there is one at all -/
theorem cw_star {s : Nat} {u : Bool} : (∃ t k, Cw A n s u t k) ↔ Mw.Star A s n := by
  constructor
  · rintro ⟨t, k, h⟩
    induction h with
    | stop => exact .refl
    | step _ a _ ih => exact (Mw.Star.one a).trans ih
  · intro h
    have key : ∀ {x y : Nat}, Mw.Star A x y → (∃ u t k, Cw A n y u t k) → (∀ u, ∃ t k, Cw A n y u t k) → ∀ u, ∃ t k, Cw A n x u t k := by
      intro x y st
      induction st with
      | refl => exact fun _ h => h
      | @step y z st a ih =>
        intro _ hz
        have : ∀ u, ∃ t k, Cw A n y u t k := fun u => by
          by_cases c : y = n
          · subst c; exact ⟨0, 0, .stop u⟩
          · obtain ⟨t, k, w⟩ := hz (decide (y < z))
            exact ⟨_, _, .step c a w⟩
        obtain ⟨t, k, w⟩ := this true
        exact ih ⟨true, t, k, w⟩ this
    exact key h ⟨true, 0, 0, .stop true⟩ (fun u => ⟨0, 0, .stop u⟩) u
end Mk

/-! Plain law: spots read from the end, letters exchanged, words joined. -/
namespace Mt
open PySem PySem.Spec PyProof.Rows L2
open Classical
theorem str_ext {a b : Str} (h : a.cps.toList = b.cps.toList) : a = b := by
  obtain ⟨⟨x⟩⟩ := a
  obtain ⟨⟨y⟩⟩ := b
  cases (show x = y from h)
  rfl
variable {A B : Nat → Nat → Prop} {n : Nat}
/-- B is A read from the end -/
structure Mir (A B : Nat → Nat → Prop) (n : Nat) : Prop where
  la : ∀ i j, A i j → i ≤ n ∧ j ≤ n
  lb : ∀ i j, B i j → i ≤ n ∧ j ≤ n
  iff : ∀ i j, i ≤ n → j ≤ n → (B i j ↔ A (n - i) (n - j))
  sa : ∀ i j, A i j → A j i
  ne : ∀ i j, A i j → i ≠ j
theorem Mir.to (m : Mir A B n) {i j : Nat} (h : A i j) : B (n - i) (n - j) := by
  have ⟨a, b⟩ := m.la _ _ h
  refine (m.iff _ _ (Nat.sub_le _ _) (Nat.sub_le _ _)).mpr ?_
  rw [Nat.sub_sub_self a, Nat.sub_sub_self b]
  exact h
theorem Mir.symm (m : Mir A B n) : Mir B A n where
  la := m.lb
  lb := m.la
  iff i j hi hj := by
    rw [m.iff _ _ (Nat.sub_le _ _) (Nat.sub_le _ _), Nat.sub_sub_self hi, Nat.sub_sub_self hj]
  sa i j h := by
    have ⟨a, b⟩ := m.lb _ _ h
    exact (m.iff _ _ b a).mpr (m.sa _ _ ((m.iff _ _ a b).mp h))
  ne i j h := by
    have ⟨a, b⟩ := m.lb _ _ h
    intro e
    exact m.ne _ _ ((m.iff _ _ a b).mp h) (by rw [e])
/-! ### ways, from both ends -/
inductive Wy (A : Nat → Nat → Prop) : Nat → Bool → Nat → Nat → Nat → Bool → Prop
  | nil (s : Nat) (u : Bool) : Wy A s u 0 0 s u
  | cons {s o t k e : Nat} {u d : Bool} (a : A s o) (h : Wy A o (decide (s < o)) t k e d) : Wy A s u (t + Mk.tn u (decide (s < o))) (k + 1) e d
theorem Wy.snoc {s t k e f : Nat} {u d : Bool} (h : Wy A s u t k e d) (a : A e f) : Wy A s u (t + Mk.tn d (decide (e < f))) (k + 1) f (decide (e < f)) := by
  induction h with
  | nil s u => exact Wy.cons a (.nil _ _)
  | @cons s o t k e u d a' _ ih =>
    have := Wy.cons (A := A) (u := u) a' (ih a)
    rw [Nat.add_right_comm] at this
    exact this
theorem tn_comm (a b : Bool) : Mk.tn a b = Mk.tn b a := by cases a <;> cases b <;> rfl
theorem tn_self (a : Bool) : Mk.tn a a = 0 := by cases a <;> rfl
theorem wy_of (hA : ∀ i j, A i j → i ≤ n ∧ j ≤ n) (ne : ∀ i j, A i j → i ≠ j) {s t k : Nat} {u : Bool} (h : Mk.Cw A n s u t k) : ∃ d, Wy A s u t k n d ∧ (s ≠ n → d = true) := by
  induction h with
  | stop u => exact ⟨u, .nil _ _, fun c => absurd rfl c⟩
  | @step s o t k u c a h ih =>
    obtain ⟨d, w, e⟩ := ih
    by_cases q : o = n
    · subst q
      obtain ⟨rfl, rfl⟩ := Mk.cw_n h
      refine ⟨decide (s < o), .cons a (.nil _ _), fun _ => ?_⟩
      have := (hA _ _ a).1
      exact decide_eq_true (by omega)
    · exact ⟨d, .cons a w, fun _ => e q⟩
theorem wy_cw {s t k : Nat} {u d : Bool} (h : Wy A s u t k n d) : ∃ t' k', Mk.Cw A n s u t' k' ∧ Mk.lx (t', k') (t, k) := by
  generalize en : n = e at h
  induction h with
  | nil s u => subst en; exact ⟨0, 0, .stop _, Mk.lx.refl _⟩
  | @cons s o t k e u d a h ih =>
    subst en
    obtain ⟨t', k', c, l⟩ := ih rfl
    by_cases q : s = n
    · subst q
      exact ⟨0, 0, .stop _, Mk.lx_zero _⟩
    · exact ⟨_, _, .step q a c, Mk.lx_add (p := (t', k')) (q := (t, k)) |>.mpr l⟩
theorem Mir.wy (m : Mir A B n) {s t k e : Nat} {u d : Bool} (h : Wy A s u t k e d) (c : k ≠ 0) : ∃ o t', A s o ∧ t = t' + Mk.tn u (decide (s < o)) ∧ Wy B (n - e) d t' k (n - s) (decide (s < o)) := by
  induction h with
  | nil => exact absurd rfl c
  | @cons s o t k e u d a h ih =>
    have ⟨sn, on⟩ := m.la _ _ a
    have b : B (n - o) (n - s) := m.to (m.sa _ _ a)
    have dir : decide (n - o < n - s) = decide (s < o) := decide_eq_decide.mpr (by omega)
    refine ⟨o, t, a, rfl, ?_⟩
    cases k with
    | zero =>
      cases h
      have w := Wy.cons (u := decide (s < o)) b (.nil _ _)
      rw [dir, tn_self] at w
      exact w
    | succ k =>
      obtain ⟨o2, t2, a2, e2, w2⟩ := ih (by omega)
      have w := w2.snoc b
      rw [dir, tn_comm] at w
      rw [e2]
      exact w
theorem Mir.cw (m : Mir A B n) (n0 : n ≠ 0) {t k : Nat} (h : Mk.Cw A n 0 true t k) : ∃ t' k', Mk.Cw B n 0 true t' k' ∧ Mk.lx (t', k') (t, k) := by
  obtain ⟨d, w, e⟩ := wy_of m.la m.ne h
  have hd := e (by omega)
  subst hd
  have k0 : k ≠ 0 := by
    cases h with
    | stop => exact absurd rfl n0
    | step => omega
  obtain ⟨o, t', a, e, w'⟩ := m.wy w k0
  have o0 : 0 < o := by have := m.ne _ _ a; omega
  rw [decide_eq_true o0, tn_self, Nat.add_zero] at e
  subst e
  rw [Nat.sub_self, Nat.sub_zero] at w'
  exact wy_cw w'
theorem Mir.least (m : Mir A B n) (n0 : n ≠ 0) {p : Nat × Nat} (h : Mk.Least A n 0 true p) : Mk.Least B n 0 true p := by
  obtain ⟨t, k, c, l⟩ := m.cw n0 h.1
  obtain ⟨q, hq⟩ := Mk.least_ex c
  obtain ⟨t2, k2, c2, l2⟩ := m.symm.cw n0 hq.1
  have e : p = q := (Mk.lx.trans (h.2 _ _ c2) l2).anti (Mk.lx.trans (hq.2 _ _ c) l)
  rw [e]
  exact hq
theorem Mir.star (m : Mir A B n) {i j : Nat} (h : Mw.Star A i j) : Mw.Star B (n - i) (n - j) := by
  induction h with
  | refl => exact .refl
  | step _ a ih => exact .step ih (m.to a)
theorem Mir.told (m : Mir A B n) : Mw.Star A 0 n ↔ Mw.Star B 0 n := by
  have one : ∀ {A B}, Mir A B n → Mw.Star A 0 n → Mw.Star B 0 n := fun {A B} m h => by
    have := (m.star h).symm m.symm.sa
    rw [Nat.sub_self, Nat.sub_zero] at this
    exact this
  exact ⟨one m, one m.symm⟩
theorem Mir.steps (m : Mir A B n) : ∀ {k x y : Nat}, Mz.Steps A k x y → Mz.Steps B k (n - x) (n - y)
  | 0, x, y, e => by cases e; rfl
  | k + 1, x, z, ⟨y, s, a⟩ => ⟨n - y, m.steps s, m.to a⟩
theorem Mir.ends (m : Mir A B n) {k : Nat} (h : Mz.Steps A k 0 n) : Mz.Steps B k 0 n := by
  have := (m.steps h).symm m.symm.sa
  rw [Nat.sub_self, Nat.sub_zero] at this
  exact this
theorem Mir.dist (m : Mir A B n) {k : Nat} (h : Mz.Dist A 0 n k) : Mz.Dist B 0 n k := ⟨m.ends h.1, fun j hj s => h.2 j hj (m.symm.ends s)⟩
theorem gr_len {x : Nat} {P : List Nat} (h : Mz.Gr A n x P) : ∃ d, Mz.Dist A x n d ∧ P.length = d + 1 := by
  induction h with
  | stop => exact ⟨0, Mz.Dist.zero, rfl⟩
  | step hx _ hw _ _ ih =>
    obtain ⟨d', h', l⟩ := ih
    have := hw.inj h'
    exact ⟨_, hx, by rw [List.length_cons, l, this]⟩
/-! ### classes -/
theorem nat_ext {l m : List Nat} (hl : l.Pairwise (· < ·)) (hm : m.Pairwise (· < ·)) (h : ∀ x, x ∈ l ↔ x ∈ m) : l = m := Mc.lt_ext (R := fun a b : Nat => a < b) (fun x => by omega) (fun x y z h k => by omega) hl hm h
theorem cls_asc (n s : Nat) : (Mc.cls A n s).Pairwise (· < ·) := (Mc.range_lt (n + 1)).sublist List.filter_sublist
/-- a class, its spots counted from the end -/
def mr (n : Nat) (c : List Nat) : List Nat := (c.map fun i => n - i).reverse
theorem mr_asc {c : List Nat} (h : c.Pairwise (· < ·)) (l : ∀ x ∈ c, x ≤ n) : (mr n c).Pairwise (· < ·) := by
  unfold mr
  rw [List.pairwise_reverse, List.pairwise_map]
  refine List.Pairwise.imp_of_mem ?_ h
  intro a b ha hb hab
  have := l a ha
  have := l b hb
  show n - b < n - a
  omega
theorem mem_mr {c : List Nat} {x : Nat} : x ∈ mr n c ↔ ∃ i ∈ c, n - i = x := by
  unfold mr
  rw [List.mem_reverse, List.mem_map]
theorem Mir.cls (m : Mir A B n) {s : Nat} (hs : s ≤ n) : mr n (Mc.cls A n s) = Mc.cls B n (n - s) := by
  refine nat_ext (mr_asc (cls_asc n s) fun x h => (Mc.mem_cls.mp h).1) (cls_asc n _) fun x => ?_
  rw [mem_mr, Mc.mem_cls]
  constructor
  · rintro ⟨i, hi, rfl⟩
    obtain ⟨h1, h2⟩ := Mc.mem_cls.mp hi
    exact ⟨Nat.sub_le _ _, m.star h2⟩
  · rintro ⟨h1, h2⟩
    refine ⟨n - x, Mc.mem_cls.mpr ⟨Nat.sub_le _ _, ?_⟩, Nat.sub_sub_self h1⟩
    have := m.symm.star h2
    rwa [Nat.sub_sub_self hs] at this
theorem cls_head (sy : ∀ i j, A i j → A j i) {s : Nat} (h : Mc.Rep A s) (hs : s ≤ n) : ∃ r, Mc.cls A n s = s :: r := by
  have mem : s ∈ Mc.cls A n s := Mc.mem_cls.mpr ⟨hs, .refl⟩
  have asc := cls_asc (A := A) n s
  cases e : Mc.cls A n s with
  | nil => rw [e] at mem; cases mem
  | cons a r =>
    rw [e] at mem asc
    rcases List.mem_cons.mp mem with q | q
    · exact ⟨r, by rw [q]⟩
    · have l := (List.pairwise_cons.mp asc).1 _ q
      have : a ∈ Mc.cls A n s := by rw [e]; exact List.mem_cons_self
      exact absurd ((Mc.mem_cls.mp this).2.symm sy) (h a l)
def HeadLt (c d : List Nat) : Prop := ∃ a r b q, c = a :: r ∧ d = b :: q ∧ a < b
theorem classes_asc (sy : ∀ i j, A i j → A j i) : (Mc.classesTo A n (n + 1)).Pairwise HeadLt := by
  unfold Mc.classesTo
  rw [List.pairwise_map]
  refine List.Pairwise.imp_of_mem ?_ ((Mc.range_lt (n + 1)).sublist List.filter_sublist)
  intro a b ha hb hab
  rw [List.mem_filter, List.mem_range, decide_eq_true_iff] at ha hb
  obtain ⟨r, e⟩ := cls_head sy ha.2 (by omega : a ≤ n)
  obtain ⟨q, f⟩ := cls_head sy hb.2 (by omega : b ≤ n)
  exact ⟨a, r, b, q, e, f, hab⟩
theorem head_ne {c d : List Nat} (h : HeadLt c d) : c ≠ d := by
  rintro rfl
  obtain ⟨a, r, b, q, e, f, l⟩ := h
  rw [e] at f
  have := (List.cons.inj f).1
  omega
theorem cls_star (sy : ∀ i j, A i j → A j i) {s t : Nat} (h : Mw.Star A s t) : Mc.cls A n s = Mc.cls A n t := by
  refine nat_ext (cls_asc n s) (cls_asc n t) fun x => ?_
  rw [Mc.mem_cls, Mc.mem_cls]
  exact ⟨fun ⟨a, b⟩ => ⟨a, (h.symm sy).trans b⟩, fun ⟨a, b⟩ => ⟨a, h.trans b⟩⟩
theorem rep_eq (sy : ∀ i j, A i j → A j i) {s t : Nat} (hs : Mc.Rep A s) (ht : Mc.Rep A t) (h : Mw.Star A s t) : s = t := by
  rcases Nat.lt_trichotomy s t with c | c | c
  · exact absurd h (ht s c)
  · exact c
  · exact absurd (h.symm sy) (hs t c)
theorem Mir.classes (m : Mir A B n) : ((Mc.classesTo A n (n + 1)).map (mr n)).Perm (Mc.classesTo B n (n + 1)) := by
  have one : ∀ {s}, s < n + 1 → Mc.Rep A s → mr n (Mc.cls A n s) = Mc.cls B n (n - s) := fun hs _ => m.cls (by omega)
  refine (List.perm_ext_iff_of_nodup ?_ ((classes_asc m.symm.sa).imp fun h => head_ne h)).mpr fun c => ?_
  · unfold Mc.classesTo
    rw [List.map_map, List.nodup_iff_pairwise_ne, List.pairwise_map]
    refine List.Pairwise.imp_of_mem ?_ ((Mc.range_lt (n + 1)).sublist List.filter_sublist)
    intro a b ha hb hab e
    rw [List.mem_filter, List.mem_range, decide_eq_true_iff] at ha hb
    rw [Function.comp_apply, Function.comp_apply, one ha.1 ha.2, one hb.1 hb.2] at e
    have : n - b ∈ Mc.cls B n (n - a) := by rw [e]; exact Mc.mem_cls.mpr ⟨Nat.sub_le _ _, .refl⟩
    have st := m.symm.star (Mc.mem_cls.mp this).2
    rw [Nat.sub_sub_self (by omega : a ≤ n), Nat.sub_sub_self (by omega : b ≤ n)] at st
    have := rep_eq m.sa ha.2 hb.2 st
    omega
  · rw [List.mem_map, Mc.mem_classesTo]
    constructor
    · rintro ⟨d, hd, rfl⟩
      obtain ⟨s, hs, rs, rfl⟩ := Mc.mem_classesTo.mp hd
      obtain ⟨r, h1, h2, h3⟩ := Mc.rep_below m.symm.sa (Mw.Star.refl (R := B) (x := n - s))
      exact ⟨r, by omega, h2, by rw [one hs rs]; exact (cls_star m.symm.sa h3).symm⟩
    · rintro ⟨s, hs, rs, rfl⟩
      obtain ⟨r, h1, h2, h3⟩ := Mc.rep_below m.sa (Mw.Star.refl (R := A) (x := n - s))
      refine ⟨_, Mc.mem_classesTo.mpr ⟨r, by omega, h2, rfl⟩, ?_⟩
      have st := m.star h3
      rw [Nat.sub_sub_self (by omega : s ≤ n)] at st
      rw [one (by omega) h2]
      exact cls_star m.symm.sa st
/-! ### a piece of a text -/
theorem occ_iff {W z : Str} {s : Nat} : Mw.Occ W z s ↔ ∃ a b, z.cps.toList = a ++ W.cps.toList ++ b ∧ a.length = s := by
  have zl : z.cps.toList.length = z.length := Array.length_toList
  have wl : W.cps.toList.length = W.length := Array.length_toList
  have key : s + W.length ≤ z.length → (cutS z (some (s : Int)) (some ((s : Int) + (W.length : Int)))).cps.toList = (z.cps.toList.drop s).take W.length := fun h => by
    show ((((z.cps.toList.drop (HT.sIx z.length 0 (some (s : Int)))).take (HT.sIx z.length z.length (some ((s : Int) + (W.length : Int))) - HT.sIx z.length 0 (some (s : Int)))).toArray).toList) = _
    rw [show (s : Int) + (W.length : Int) = ((s + W.length : Nat) : Int) by omega, HT.sIx_nat, HT.sIx_nat, show min s z.length = s by omega, show min (s + W.length) z.length = s + W.length by omega, show s + W.length - s = W.length by omega]
  constructor
  · rintro ⟨h, e⟩
    have e' := congrArg (fun x : Str => x.cps.toList) e
    have e' := (key h).symm.trans e'
    refine ⟨z.cps.toList.take s, z.cps.toList.drop (s + W.length), ?_, by rw [List.length_take]; omega⟩
    rw [show W.cps.toList = (z.cps.toList.drop s).take W.length from e'.symm, List.append_assoc, ← List.drop_drop, List.take_append_drop, List.take_append_drop]
  · rintro ⟨a, b, e, rfl⟩
    have h : a.length + W.length ≤ z.length := by
      rw [← zl, e, List.length_append, List.length_append, wl]
      omega
    refine ⟨h, str_ext ?_⟩
    rw [key h, e, List.append_assoc, List.drop_left, ← wl, List.take_left]
end Mt

/-! Plain law: the ways that are found are zigzags: no spot twice. -/
namespace Mp
open Mt
variable {A : Nat → Nat → Prop} {n : Nat}
/-- a row of spots from x to n, each joined with the next, none twice -/
structure ZigX (A : Nat → Nat → Prop) (n x : Nat) (P : List Nat) : Prop where
  head : P[0]? = some x
  last : P.getLast? = some n
  nd : P.Nodup
  adj : ∀ (i a b : Nat), P[i]? = some a → P[i + 1]? = some b → A a b
theorem ZigX.one : ZigX A n n [n] := ⟨rfl, rfl, List.nodup_cons.mpr ⟨by simp, List.nodup_nil⟩, fun i a b _ h => by simp at h⟩
theorem ZigX.cons {x w : Nat} {P : List Nat} (h : ZigX A n w P) (a : A x w) (no : x ∉ P) : ZigX A n x (x :: P) where
  head := rfl
  last := by
    cases P with
    | nil => have := h.head; simp at this
    | cons y r => rw [List.getLast?_cons_cons]; exact h.last
  nd := List.nodup_cons.mpr ⟨no, h.nd⟩
  adj i c d hc hd := by
    cases i with
    | zero =>
      cases (show x = c from by simpa using hc)
      have hd' : P[0]? = some d := by simpa using hd
      rw [h.head] at hd'
      cases hd'
      exact a
    | succ i => exact h.adj i c d (by simpa using hc) (by simpa using hd)
/-! ### the shortest -/
theorem gr_far {x : Nat} {P : List Nat} (h : Mz.Gr A n x P) : ∀ {y d : Nat}, y ∈ P → Mz.Dist A x n d → ∃ e, Mz.Dist A y n e ∧ e ≤ d := by
  induction h with
  | stop => exact fun {y d} m hd => ⟨d, by rw [List.mem_singleton.mp m]; exact hd, Nat.le_refl _⟩
  | @step x w k P hx r hw least h ih =>
    intro y d m hd
    rcases List.mem_cons.mp m with e | m
    · subst e
      exact ⟨d, hd, Nat.le_refl _⟩
    · obtain ⟨e, he, le⟩ := ih m hw
      have := hx.inj hd
      exact ⟨e, he, by omega⟩
theorem gr_zig {x : Nat} {P : List Nat} (h : Mz.Gr A n x P) : ZigX A n x P := by
  induction h with
  | stop => exact .one
  | @step x w k P hx r hw least h ih =>
    refine ih.cons r fun m => ?_
    obtain ⟨e, he, le⟩ := gr_far h m hw
    have := hx.inj he
    omega
/-! ### the calmest -/
theorem wy_mono (irr : ∀ i j, A i j → i ≠ j) {s t k e : Nat} {u d : Bool} (h : Wy A s u t k e d) (t0 : t = 0) (k0 : k ≠ 0) : if u = true then s < e else e < s := by
  induction h with
  | nil => exact absurd rfl k0
  | @cons s o t k e u d a h ih =>
    have t1 : t = 0 := by omega
    have du : decide (s < o) = u := by
      have : Mk.tn u (decide (s < o)) = 0 := by omega
      unfold Mk.tn at this
      split at this
      · assumption
      · omega
    have ne := irr _ _ a
    have first : if u = true then s < o else o < s := by
      cases u with
      | true => rw [if_pos rfl]; exact of_decide_eq_true du
      | false => rw [if_neg Bool.false_ne_true]; have := of_decide_eq_false du; omega
    cases k with
    | zero =>
      cases h
      exact first
    | succ k =>
      have := ih t1 (by omega)
      rw [du] at this
      cases u with
      | true =>
        rw [if_pos rfl] at this first ⊢
        omega
      | false =>
        rw [if_neg Bool.false_ne_true] at this first ⊢
        omega
theorem cw_other {s t k : Nat} {u : Bool} (h : Mk.Cw A n s u t k) (ne : s ≠ n) (v : Bool) : ∃ t', Mk.Cw A n s v t' k ∧ t' ≤ t + 1 := by
  obtain ⟨o, q, a, c, e⟩ := h.next ne
  have e1 := congrArg Prod.fst e
  have e2 := congrArg Prod.snd e
  have h1 : t = q.1 + Mk.tn u (decide (s < o)) := e1
  have h2 : k = q.2 + 1 := e2
  subst h2
  refine ⟨_, .step ne a c, ?_⟩
  have : Mk.tn v (decide (s < o)) ≤ 1 := by unfold Mk.tn; split <;> omega
  omega
theorem gc_far {s : Nat} {u : Bool} {P : List Nat} (h : Mk.Gc A n s u P) : ∀ {y : Nat}, y ∈ P → ∃ (u2 : Bool) (t k : Nat) (p : Nat × Nat), Wy A s u t k y u2 ∧ Mk.Least A n y u2 p ∧ Mk.Least A n s u (t + p.1, k + p.2) := by
  induction h with
  | stop u =>
    intro y m
    rw [List.mem_singleton.mp m]
    have l : Mk.Least A n n u (0, 0) := ⟨.stop u, fun t k _ => Mk.lx_zero _⟩
    exact ⟨u, 0, 0, (0, 0), .nil _ _, l, l⟩
  | @step s o u p q P ne hs a ho e least h ih =>
    intro y m
    rcases List.mem_cons.mp m with ey | m
    · subst ey
      refine ⟨u, 0, 0, p, .nil _ _, hs, ?_⟩
      rw [Nat.zero_add, Nat.zero_add]
      exact hs
    · obtain ⟨u2, t, k, p2, w, l2, lo⟩ := ih m
      have eq := ho.inj lo
      refine ⟨u2, _, _, p2, .cons a w, l2, ?_⟩
      have : p = (t + Mk.tn u (decide (s < o)) + p2.1, k + 1 + p2.2) := by
        rw [e, eq]
        unfold Mk.add
        simp only
        refine Prod.ext ?_ ?_
        · show t + p2.1 + _ = t + _ + p2.1
          omega
        · show k + p2.2 + 1 = k + 1 + p2.2
          omega
      rw [← this]
      exact hs
theorem gc_zig (irr : ∀ i j, A i j → i ≠ j) {s : Nat} {u : Bool} {P : List Nat} (h : Mk.Gc A n s u P) : ZigX A n s P := by
  induction h with
  | stop u => exact .one
  | @step s o u p q P ne hs a ho e least h ih =>
    refine ih.cons a fun m => ?_
    obtain ⟨u2, t, k, p2, w, l2, lo⟩ := gc_far h m
    have w' := Wy.cons (u := u) a w
    have pos : t + Mk.tn u (decide (s < o)) ≠ 0 := fun z => by
      have := wy_mono irr w' z (by omega)
      split at this <;> omega
    obtain ⟨t', c', le⟩ := cw_other l2.1 ne u
    have eq := ho.inj lo
    have := hs.2 _ _ c'
    rw [e, eq] at this
    unfold Mk.lx Mk.add at this
    simp only at this
    omega
theorem ZigX.len {P : List Nat} {x : Nat} (h : ZigX A n x P) (ne : x ≠ n) : 2 ≤ P.length := by
  cases P with
  | nil => have := h.head; simp at this
  | cons a r =>
    cases r with
    | nil =>
      have h1 := h.head
      have h2 := h.last
      simp at h1 h2
      omega
    | cons b r => simp
theorem ZigX.le (hA : ∀ i j, A i j → i ≤ n ∧ j ≤ n) {x : Nat} {P : List Nat} (h : ZigX A n x P) (hx : x ≤ n) : ∀ y ∈ P, y ≤ n := fun y m => by
  obtain ⟨i, hi, e⟩ := List.getElem_of_mem m
  cases i with
  | zero =>
    have := h.head
    rw [List.getElem?_eq_getElem hi, e] at this
    cases this
    exact hx
  | succ i => exact (hA _ _ (h.adj i _ y (List.getElem?_eq_getElem (by omega)) (by rw [List.getElem?_eq_getElem hi, e]))).2
end Mp

/-! Sorting of data of any depth, and by an own key function. -/
namespace Rs
open PySem PySem.W PyProof.Rows
theorem nsOne {h : Heap} {L : Addr} {m m' : Str → Option Value} : h.Ns L m → h.Ns L m' → m = m' := by
  rintro ⟨o, es, ep, e, d, _, r⟩ ⟨o', es', ep', e', d', _, r'⟩
  have : o = o' := Option.some.inj (e.symm.trans e')
  subst this
  rw [d] at d'
  injection d' with d1 d2
  subst d1
  funext x
  exact (r x).symm.trans (r' x)
theorem each_split {α β γ : Type} {R : α → γ → Prop} {S : γ → β → Prop} : ∀ {as : List α} {bs : List β}, EachIs (fun a b => ∃ c, R a c ∧ S c b) as bs → ∃ cs : List γ, EachIs R as cs ∧ EachIs S cs bs
  | _, _, .nil => ⟨[], .nil, .nil⟩
  | _, _, .cons ⟨c, h1, h2⟩ t => let ⟨cs, q1, q2⟩ := each_split t; ⟨c :: cs, .cons h1 q1, .cons h2 q2⟩
theorem each_get {α β : Type} {R : α → β → Prop} : ∀ {as : List α} {bs : List β}, EachIs R as bs → ∀ {i : Nat} {a : α}, as[i]? = some a → ∃ b, bs[i]? = some b ∧ R a b
  | _, _, .nil, _, _, h => by simp at h
  | _, _, .cons h t, 0, _, e => by
    simp at e
    subst e
    exact ⟨_, rfl, h⟩
  | _, _, .cons h t, i + 1, _, e => each_get t (i := i) (by simpa using e)
end Rs
namespace Rs
open PySem PySem.Spec PyProof.Rows L2 PySem.W
theorem each_vals {R : V → β → Prop} : ∀ {xs : List V} {us : List Value} {bs : List β}, Vals xs us → EachIs R xs bs → EachIs (fun u b => ∃ x, RelV x u ∧ R x b) us bs
  | _, _, _, .nil, .nil => .nil
  | _, _, _, .cons r rr, .cons h t => .cons ⟨_, r, h⟩ (each_vals rr t)
theorem vals_each {R : V → β → Prop} : ∀ {us : List Value} {bs : List β}, EachIs (fun u b => ∃ x, RelV x u ∧ R x b) us bs → ∃ xs : List V, Vals xs us ∧ EachIs R xs bs
  | _, _, .nil => ⟨[], .nil, .nil⟩
  | _, _, .cons ⟨x, r, h⟩ t => let ⟨xs, q1, q2⟩ := vals_each t; ⟨x :: xs, .cons r q1, .cons h q2⟩
/-- what is asked of the keys: alike, all tuples with an item or none a tuple, not deep -/
structure Keys (ds : List PyData) : Prop where
  al : AllAlike ds
  so : Sortable ds
  dp : ∀ d ∈ ds, d.depth ≤ 50
section
variable {X : Cx}
/-- sorted(xs), data of any depth -/
def rSortD (K : PySem.W.Frag) : List V → Hp → VK → Prop := fun vs H Q => ∃ (a : Addr) (xs : List V) (β : Type) (bs : List β) (k : β → PyData) (R : V → β → Prop), vs = [V.ref a] ∧ SqL K H a xs ∧ EachIs (fun x b => Dp K H x (k b) ∧ R x b) xs bs ∧ Keys (bs.map k) ∧
  ∀ (out : List V) (p : Addr) (G : Hp), EachIs (fun x b => Dp K H x (k b) ∧ R x b) out (bs.mergeSort (dataLe false k)) → H p = none → G p = some (.lst out) → Same H G → Q (.ref p) G
theorem cr_sortD (hu : X.A.units + 64 < cLine) : CallR X (.builtin "sorted") (rSortD X.K) := by
  intro pins s σ H vs us Q I r h
  obtain ⟨a, xs, β, bs, k, R, rfl, hs, he, hk, q⟩ := h
  obtain ⟨its, rv, hl, hz⟩ := I.list hs
  obtain rfl := Vals.ref1 r
  have hz' : its.length ≤ sizeLine := by rw [← rv.length]; exact hz
  have h1 : EachIs (fun u b => ∃ x, RelV x u ∧ (Dp X.K H x (k b) ∧ R x b)) its bs := each_vals rv he
  have h2 : EachIs (fun u b => ∃ as, Reads s.heap u (k b) as) its bs := h1.mono fun u b ⟨x, rx, hx, _⟩ => Dp.reads I (k b) x u hx rx
  have h3 : EachIs (fun u d => ∃ as, Reads (sortingHeap (copyHeap s.heap its) (s.heap.objs.size + 1) its) u d as) its (bs.map k) := by
    have : ∀ {as : List Value} {bs : List β}, EachIs (fun u b => ∃ as, Reads s.heap u (k b) as) as bs → EachIs (fun u d => ∃ as, Reads (sortingHeap (copyHeap s.heap its) (s.heap.objs.size + 1) its) u d as) as (bs.map k) := by
      intro as bs h
      induction h with
      | nil => exact .nil
      | cons h _ ih =>
        obtain ⟨as, r⟩ := h
        exact .cons ⟨as, PyProof.Rows.Reads.keeps (fun b o e => sorting_copy_old e) r⟩ ih
    exact this h2
  have SA : SortsAt X.prog X.w X.A.in1.in1 { s with heap := sortingHeap (copyHeap s.heap its) (s.heap.objs.size + 1) its } (dataKind (sortingHeap (copyHeap s.heap its) (s.heap.objs.size + 1) its) (bs.map k)) its := SortsAt.data (s := { s with heap := sortingHeap (copyHeap s.heap its) (s.heap.objs.size + 1) its }) h3 hk.al hk.so fun d hd => by
    have := hk.dp d hd
    simp only [units_in1]
    omega
  refine sorted_vals hl.isList SA hz' ?_
  have out := sortVals_each (κ := dataKind (sortingHeap (copyHeap s.heap its) (s.heap.objs.size + 1) its) (bs.map k)) (rev := false) (fun b => keyToks (k b)) h1 (each_of_map k (each_keys hk.al h3))
  obtain ⟨ys, ry, hy⟩ := vals_each out
  obtain ⟨ep, he'⟩ := PyProof.Rows.sortedAll_at s.heap its (sortVals (dataKind (sortingHeap (copyHeap s.heap its) (s.heap.objs.size + 1) its) (bs.map k)) false its its).toArray
  have hlen : ys.length ≤ sizeLine := by
    rw [ry.length, sortVals_length false rfl]
    exact hz'
  have hf := I.hok.fresh (Nat.le_succ s.heap.objs.size)
  exact ⟨.ref _, upd H (s.heap.objs.size + 1) (.lst ys), I.laid (t' := s.toks) (fun _ _ => PyProof.Rows.sortedAll_old) (Nat.le_succ _) ⟨hlen, _, ep, ry, he'⟩, rfl, q ys _ _ hy hf upd_same (Rd.same_upd hf)⟩
end
end Rs
namespace Rs
open PySem PySem.Spec PyProof.Rows L2 PySem.W
theorem room2 {k : Nat} {A : Around} (r : Room (k + 1) A) : Room k A.in1.in1 :=
  ⟨r.hd, by have := r.dp; show A.depth + 3 * k + 5 < _; omega, by have := r.un; show A.units + 1 + 1 + 16 * k + 200 < _; omega⟩
theorem each_imp {α β : Type} {R S : α → β → Prop} (h : ∀ a b, R a b → S a b) : ∀ {as : List α} {bs : List β}, EachIs R as bs → EachIs S as bs
  | _, _, .nil => .nil
  | _, _, .cons q t => .cons (h _ _ q) (each_imp h t)
theorem each_reads {X : Cx} {pins : List (Addr × Obj)} {σ : L2.St} {H : Hp} {s : Shared} (I : Inv X pins σ H s) {β : Type} {k : β → PyData} : ∀ {us : List Value} {vs : List V} {bs : List β}, Vals vs us → EachIs (fun x b => Dp X.K H x (k b)) vs bs → EachIs (fun u d => ∃ as, Reads s.heap u d as) us (bs.map k)
  | _, _, _, .nil, .nil => .nil
  | _, _, _, .cons r rr, .cons h t => .cons (Dp.reads I _ _ _ h r) (each_reads I rr t)
mutual
theorem Dp.same {K : PySem.W.Frag} {H H' : Hp} (s : Same H H') : ∀ (d : PyData) (v : V), Dp K H v d → Dp K H' v d
  | .none, _, h => by cases h; exact .non
  | .bool b, _, h => by cases h; exact .bl b
  | .int i, _, h => by cases h; exact .int i
  | .str x, _, h => by cases h; exact .str x
  | .list ds, _, h => by
    cases h with
    | lst hs ha => exact .lst (s.seq hs) (Dp.sameAll s ds _ ha)
  | .tuple ds, _, h => by
    cases h with
    | tup hs ha => exact .tup (Ru.same_tup s hs) (Dp.sameAll s ds _ ha)
  | .dict _, _, h => by cases h
theorem Dp.sameAll {K : PySem.W.Frag} {H H' : Hp} (s : Same H H') : ∀ (ds : List PyData) (vs : List V), DpAll K H vs ds → DpAll K H' vs ds
  | [], _, h => by cases h; exact .nil
  | d :: ds, _, h => by
    cases h with
    | cons h1 h2 => exact .cons (Dp.same s d _ h1) (Dp.sameAll s ds _ h2)
end
theorem each_snocK {β : Type} {R : V → β → Prop} {x : V} {y : β} (hxy : R x y) : ∀ {as : List V} {bs : List β}, EachIs R as bs → EachIs R (as ++ [x]) (bs ++ [y])
  | _, _, .nil => .cons hxy .nil
  | _, _, .cons h t => .cons h (each_snocK hxy t)
def rSortK (f : Addr) (sp : Sp) (K : PySem.W.Frag) : List V → List V → Hp → VK → Prop := fun vs zs H Q => ∃ (a : Addr) (xs : List V) (β : Type) (bs : List β) (k : β → PyData) (R : V → β → Prop), vs = [V.ref a] ∧ zs = [V.ref f] ∧ SqL K H a xs ∧ EachIs R xs bs ∧ Keys (bs.map k) ∧
  (∀ x b H1, Same H H1 → b ∈ bs → R x b → sp [x] H1 (fun v H2 => Same H1 H2 ∧ Dp K H2 v (k b)) (fun _ _ _ => False)) ∧
  ∀ (out : List V) (p : Addr) (G : Hp), EachIs R out (bs.mergeSort (dataLe false k)) → H p = none → G p = some (.lst out) → Same H G → Q (.ref p) G
section
variable {X : Cx} {f : Addr} {fd : FuncData} {ps : List Str} {sp : Sp} {k : Nat}
theorem cr_sortK (F : FnOk X.prog X.w X.K X.mg X.base CX0 k f fd ps sp) (hr : Room (k + 1) X.A) (hb : Binds X.K fd ps []) : CallRK X (.builtin "sorted") [Str.ofString "key"] (rSortK f sp X.K) := by
  intro pins s σ H vs zs us ws Q I r rz h
  obtain ⟨a, xs, β, bs, key, R, rfl, rfl, hs, he, hk, hkey, q⟩ := h
  obtain ⟨its, rv, hl, hz⟩ := I.list hs
  obtain rfl := Vals.ref1 r
  obtain rfl := Vals.ref1 rz
  have hz' : its.length ≤ sizeLine := by rw [← rv.length]; exact hz
  have hbl : its.length = bs.length := by rw [← rv.length, he.length]
  refine sorted_of_sort hl.isList hz' (ksk_s1 _ _) (fun _ => ksk_l1 _ _) fun E' => ?_
  show wpAny _ _ (Builtin.«list.sort» ⟨[.ref (s.heap.objs.size + 1)], [(Str.ofString "key", .ref f)]⟩) _ E' { s with heap := copyHeap s.heap its }
  rw [ksk_t1]
  unfold ksk_tree
  have hcs : (copyHeap s.heap its).objs.size = s.heap.objs.size + 2 := by
    unfold copyHeap
    rw [size_push', Heap.size_update, size_push']
  have ho := copyHeap_at s.heap its
  refine wpAny_bind (listItems_at ho rfl ?_)
  refine wpAny_bind (listUpdate_at ho rfl ?_ (by rw [List.size_toArray]; exact hz') (Nat.zero_le _))
  obtain ⟨e1, ho1⟩ : ∃ e1, ((copyHeap s.heap its).update (s.heap.objs.size + 1) (Obj.mapSeq fun _ => #[])).get? (s.heap.objs.size + 1) = some (seqObj "list" #[] e1) := ⟨_, get?_update_seq ho fun _ => #[]⟩
  refine wpAny_bind (seqEpoch_at ho1 rfl ?_)
  refine wpAny_bind (wpAny_newTuple ?_ (by show its.length ≤ _; exact hz'))
  refine wpAny_bind (wpAny_newList ?_ (Nat.zero_le _))
  refine wpAny_holding ?_
  have hks : (((copyHeap s.heap its).update (s.heap.objs.size + 1) (Obj.mapSeq fun _ => #[])).push (seqObj "tuple" its.toArray 0)).objs.size = s.heap.objs.size + 3 := by
    rw [size_push', Heap.size_update, hcs]
  have hoa : (sortingHeap (copyHeap s.heap its) (s.heap.objs.size + 1) its).get? (s.heap.objs.size + 1) = some (seqObj "list" #[] e1) :=
    Heap.get?_push_of_some _ (Heap.get?_push_of_some _ ho1)
  have hok : (sortingHeap (copyHeap s.heap its) (s.heap.objs.size + 1) its).get? (s.heap.objs.size + 3) = some (seqObj "list" #[] 0) := by
    rw [← hks]
    exact Heap.get?_push_size _ rfl
  show wpAny _ _ (ksk_rest (s.heap.objs.size + 1) (.ref f) false its.toArray e1 (.ref (((copyHeap s.heap its).update (s.heap.objs.size + 1) (Obj.mapSeq fun _ => #[])).push (seqObj "tuple" its.toArray 0)).objs.size)) _ E' { s with heap := sortingHeap (copyHeap s.heap its) (s.heap.objs.size + 1) its }
  rw [hks]
  have hk0 : ∀ b o, s.heap.get? b = some o → (sortingHeap (copyHeap s.heap its) (s.heap.objs.size + 1) its).get? b = some o := fun b o q => sorting_copy_old q
  generalize sortingHeap (copyHeap s.heap its) (s.heap.objs.size + 1) its = g0 at hoa hok hk0
  have old : ∀ b o, s.heap.get? b = some o → b < s.heap.objs.size := fun b o e => Heap.lt_size e
  have nL : @LT.lt Nat _ X.env.locals s.heap.objs.size := I.lt
  have up : ∀ c i : Nat, c < s.heap.objs.size → c ≠ s.heap.objs.size + i := fun c i h => by omega
  have pu : ∀ c i : Nat, c < s.heap.objs.size → s.heap.objs.size + i ≠ c := fun c i h => by omega
  have le0 : ∀ i : Nat, X.s_0.heap.objs.size ≤ s.heap.objs.size + i := fun i => Nat.le_trans I.sz (Nat.le_add_right _ _)
  have n13 : ¬ s.heap.objs.size + 1 = s.heap.objs.size + 3 := by omega
  have n31 : ¬ s.heap.objs.size + 3 = s.heap.objs.size + 1 := by omega
  have nC : ∀ x c, X.env.cells.lookup x = some c → c < s.heap.objs.size := fun x c e => by
    obtain ⟨v, o, ho, _⟩ := I.cell x c e
    exact Heap.lt_size ho
  have nP : ∀ p ∈ X.pn ++ pins, p.1 < s.heap.objs.size := fun p hp => Heap.lt_size (I.pin p hp).1
  have sz := I.sz
  unfold ksk_rest
  refine wpAny_bind (wpAny_rule ?_)
  first
    | rw [List.forIn_toArray]
    | (rw [← Array.forIn_toList]; simp only [List.toList_toArray])
    | rw [← Array.forIn_toList]
  refine wpAny_bind (ksk_fold (fun i s' => ∃ (Hc : Hp) (ks : List V) (kA : Array Value) (e : Nat), Inv X (pins ++ [(s.heap.objs.size + 3, seqObj "list" kA e), (s.heap.objs.size + 1, seqObj "list" #[] e1)]) σ Hc s' ∧ Same H Hc ∧ Vals ks kA.toList ∧
      EachIs (fun x b => Dp X.K Hc x (key b)) ks (bs.take i)) its 0 { s with heap := g0 } ?start ?step ?done)
  case start =>
    have I1 : Inv X pins σ H { s with heap := g0 } := I.kept (t' := s.toks) hk0
    have hf1 := I.hok.fresh (a := s.heap.objs.size + 1) (by omega)
    have hf3 := I.hok.fresh (a := s.heap.objs.size + 3) (by omega)
    refine ⟨H, [], #[], 0, I1.pins_of fun p hp => ?_, Same.refl _, .nil, by rw [List.take_zero]; exact .nil⟩
    rcases List.mem_append.mp hp with hp | hp
    · exact I1.pin p (List.mem_append_right _ hp)
    · rcases List.mem_cons.mp hp with rfl | hp
      · exact ⟨hok, hf3, pu _ 3 nL, I.nofs (by show _ ≤ s.heap.objs.size + 3; omega), fun v => by simp [seqObj]⟩
      · rw [List.mem_singleton.mp hp]
        exact ⟨hoa, hf1, pu _ 1 nL, I.nofs (by show _ ≤ s.heap.objs.size + 1; omega), fun v => by simp [seqObj]⟩
  case step =>
    rintro j u s' hu ⟨Hc, ks, kA, e, I', sm, rk, hke⟩
    simp only [Nat.zero_add] at hke ⊢
    have hj : j < its.length := (List.getElem?_eq_some_iff.mp hu).1
    obtain ⟨b, hbj⟩ : ∃ b, bs[j]? = some b := ⟨_, List.getElem?_eq_getElem (by omega)⟩
    obtain ⟨b', hbj', x, rx, hR⟩ := each_get (each_vals rv he) hu
    obtain rfl : b' = b := by rw [hbj] at hbj'; exact (Option.some.inj hbj').symm
    have hkl : kA.size ≤ its.length := by
      have h1 : ks.length = kA.size := rk.length.trans (by simp)
      have h2 := hke.length
      rw [List.length_take] at h2
      rw [← h1, h2]
      exact Nat.le_trans (Nat.min_le_right _ _) (Nat.le_of_eq hbl.symm)
    have hsp := hkey x b' Hc sm (List.mem_of_getElem? hbj) hR
    have run := F.run X.A.in1.in1 X.stack s' Hc ⟨[u], []⟩ [u] [x] _ _ (room2 hr) I'.env0.in1.in1 (by
      have := hb s' [u] I'.kIn (by have := F.len _ _ _ _ hsp; simpa using this)
      simpa using this) (.cons rx .nil) hsp
    refine wpAny_bind (wpAny_attempt (wpAny_mono (Q := fun v s2 => EP X (pins ++ [(s.heap.objs.size + 3, seqObj "list" kA e), (s.heap.objs.size + 1, seqObj "list" #[] e1)]) σ (fun v H2 => Same Hc H2 ∧ Dp X.K H2 v (key b')) v s2) (E := fun _ _ => False) (wpAny_call (codeAny_mono run fun r s2 hq => ?_)) (fun v s2 he => ?_) fun _ _ hF => hF.elim))
    · cases r with
      | error e => exact hq
      | ok fl =>
        cases fl with
        | ret u => exact I'.after hq
        | next => exact False.elim hq
        | brk => exact False.elim hq
        | cont => exact False.elim hq
    · obtain ⟨kv, H2, I2, rkv, sm2, hd⟩ := he
      have pk := I2.pin (s.heap.objs.size + 3, seqObj "list" kA e) (List.mem_append_right _ (List.mem_append_right _ (.head _)))
      have pa := I2.pin (s.heap.objs.size + 1, seqObj "list" #[] e1) (List.mem_append_right _ (List.mem_append_right _ (.tail _ (.head _))))
      have s1 := Heap.SameBut.update s2.heap (s.heap.objs.size + 3) (Obj.mapSeq (·.push v))
      obtain ⟨c2, hc2⟩ : ∃ c2, (s2.heap.update (s.heap.objs.size + 3) (Obj.mapSeq (·.push v))).get? (s.heap.objs.size + 3) = some (seqObj "list" (kA.push v) c2) := ⟨_, get?_update_seq pk.1 (·.push v)⟩
      have I3 : Inv X pins σ H2 s2 := I2.pins_of fun p hp => I2.pin p (List.mem_append_right _ (List.mem_append_left _ hp))
      have I4 : Inv X pins σ H2 { s2 with heap := s2.heap.update (s.heap.objs.size + 3) (Obj.mapSeq (·.push v)), toks := s2.toks } := I3.turned (it := s.heap.objs.size + 3) (fun b o n q => (s1.2 b n).trans q) pk.2.1 pk.2.2.1 (.inr (le0 3)) (fun x c q => up _ 3 (nC x c q)) fun p hp => up _ 3 (nP p hp)
      try dsimp only
      refine wpAny_bind (listUpdate_at pk.1 rfl ?_ (Nat.le_trans hkl hz') (Nat.le_trans (Nat.le_of_eq (Array.size_push ..)) (Nat.succ_le_succ (Nat.le_trans hkl hz'))))
      refine wpAny_pure ⟨rfl, H2, ks ++ [kv], kA.push v, c2, I4.pins_of fun p hp => ?_, sm.trans sm2, ?_, ?_⟩
      · rcases List.mem_append.mp hp with hp | hp
        · exact I4.pin p (List.mem_append_right _ hp)
        · rcases List.mem_cons.mp hp with rfl | hp
          · exact ⟨hc2, pk.2.1, pk.2.2.1, pk.2.2.2.1, fun v => by simp [seqObj]⟩
          · rw [List.mem_singleton.mp hp]
            exact ⟨(s1.2 _ n13).trans pa.1, pa.2⟩
      · rw [Array.toList_push]
        exact rk.append (.cons rkv .nil)
      · have ek : bs.take (j + 1) = bs.take j ++ [b'] := by rw [List.take_add_one, hbj]; simp
        rw [ek]
        exact each_snocK (R := fun x b => Dp X.K H2 x (key b)) hd (each_imp (R := fun x b => Dp X.K Hc x (key b)) (fun x b q => Dp.same sm2 _ _ q) hke)
  case done =>
    rintro s' ⟨Hc, ks, kA, e, I', sm, rk, hke⟩
    have hke' : EachIs (fun x b => Dp X.K Hc x (key b)) ks bs := by
      have e3 : bs.take (0 + its.length) = bs := List.take_of_length_le (by omega)
      rw [e3] at hke
      exact hke
    have pk := I'.pin (s.heap.objs.size + 3, seqObj "list" kA e) (List.mem_append_right _ (List.mem_append_right _ (.head _)))
    have pa := I'.pin (s.heap.objs.size + 1, seqObj "list" #[] e1) (List.mem_append_right _ (List.mem_append_right _ (.tail _ (.head _))))
    have hsz : kA.size = its.length := by
      have h1 : ks.length = kA.size := rk.length.trans (by simp)
      have h2 := hke'.length
      exact h1.symm.trans (h2.trans hbl.symm)
    have rd := each_reads I' rk hke'
    try dsimp only
    refine wpAny_bind (listItems_at pk.1 rfl ?_)
    have SA : SortsAt X.prog X.w X.A.in1.in1 s' (dataKind s'.heap (bs.map key)) kA.toList := SortsAt.data rd hk.al hk.so fun d hd => by
      have h1 := hk.dp d hd
      have h2 := hr.un
      simp only [units_in1]
      omega
    obtain ⟨m, Fr0⟩ := I'.fr
    have hiB : ∀ i : Nat, X.base.get? (s.heap.objs.size + i) = none := fun i => by
      cases q : X.base.get? (s.heap.objs.size + i) with
      | none => rfl
      | some o =>
        exact absurd (Nat.lt_of_le_of_lt (Nat.le_add_right _ _) (Heap.lt_size (I.bk _ o q))) (Nat.lt_irrefl _)
    let rs := (allNews X.base s'.heap X.env.locals).filter fun p => decide (p.1 ≠ s.heap.objs.size + 3 ∧ p.1 ≠ s.heap.objs.size + 1)
    have hrs : ∀ p ∈ rs, p.1 ≠ s.heap.objs.size + 3 ∧ p.1 ≠ s.heap.objs.size + 1 := fun p hp => of_decide_eq_true (List.mem_filter.mp hp).2
    have N0 : News X.base X.env.locals s'.heap (rs ++ [(s.heap.objs.size + 3, seqObj "list" kA e), (s.heap.objs.size + 1, seqObj "list" #[] e1)]) := fun p hp => by
      rcases List.mem_append.mp hp with hp | hp
      · exact news_all p (List.mem_filter.mp hp).1
      · rcases List.mem_cons.mp hp with rfl | hp
        · exact ⟨pk.1, pk.2.2.1, hiB 3⟩
        · rw [List.mem_singleton.mp hp]
          exact ⟨pa.1, pa.2.2.1, hiB 1⟩
    refine key_end (κ := dataKind s'.heap (bs.map key)) Fr0 N0 n31 (fun p hp => (hrs p hp).1) (fun p hp => (hrs p hp).2) SA hsz hz' fun h' tk ep F' N' => ⟨rfl, ?_⟩
    have kp : ∀ c o, c ≠ X.env.locals → c ≠ s.heap.objs.size + 3 → c ≠ s.heap.objs.size + 1 → s'.heap.get? c = some o → h'.get? c = some o := fun c o n0 n1 n2 q => by
      cases z : X.base.get? c with
      | some u =>
        have := I'.bk c u z
        rw [q] at this
        cases this
        exact F'.keep c _ z
      | none => exact (N' (c, o) (List.mem_cons_of_mem _ (List.mem_filter.mpr ⟨mem_allNews n0 z q, decide_eq_true ⟨n1, n2⟩⟩))).1
    have ha' := (N' _ List.mem_cons_self).1
    have out := sortVals_each (κ := dataKind s'.heap (bs.map key)) (rev := false) (fun b => keyToks (key b)) (each_vals rv he) (each_of_map key (each_keys hk.al rd))
    obtain ⟨ys, ry, hy⟩ := vals_each out
    have hlen : ys.length ≤ sizeLine := by
      rw [ry.length, sortVals_length false (by rw [Array.length_toList]; exact hsz)]
      exact hz'
    have I3 : Inv X pins σ Hc s' := I'.pins_of fun p hp => I'.pin p (List.mem_append_right _ (List.mem_append_left _ hp))
    have fin : Inv X pins σ (upd Hc (s.heap.objs.size + 1) (.lst ys)) { s' with heap := h', gens := s'.gens, drawn := s'.drawn, toks := tk } := by
      have hna : Hc (s.heap.objs.size + 1) = none := pa.2.1
      have hnk : Hc (s.heap.objs.size + 3) = none := pk.2.1
      refine I3.step (ch := [s.heap.objs.size + 3, s.heap.objs.size + 1]) (fun b hb => ?_) (fun b o nl _ hc q _ => kp b o nl (fun z => hc (by simp [z])) (fun z => hc (by simp [z])) q) (fun b o nl _ hc q _ => ⟨o.slots, kp b o nl (fun z => hc (by simp [z])) (fun z => hc (by simp [z])) q⟩)
        (fun b o hc q n => ?_) (fun b o hc q => ?_) (fun b xs q => by rw [upd_ne (ne_of_none q hna)]; exact q) (fun b o u q => by rw [upd_ne (ne_of_none q hna)]; exact q) (fun b ps q => ⟨#[], by rw [upd_ne (ne_of_none q hna), q]; simp⟩) (fun m hm => ?_) (fun b u q => ?_) I3.bare
      · have : b = s.heap.objs.size + 3 ∨ b = s.heap.objs.size + 1 := by simpa using hb
        rcases this with rfl | rfl
        · exact ⟨.inr (le0 3), pu _ 3 nL, fun x c q => up _ 3 (nC x c q), fun p hp => up _ 3 (nP p hp)⟩
        · exact ⟨.inr (le0 1), pu _ 1 nL, fun x c q => up _ 1 (nC x c q), fun p hp => up _ 1 (nP p hp)⟩
      · rw [upd_ne (fun z => hc (by simp [z]))]
        exact n
      · by_cases hbl : b = X.env.locals
        · obtain ⟨o', _, _, ho', _⟩ := F'.ns
          exact ⟨o', by rw [hbl]; exact ho'⟩
        · exact ⟨o, kp b o hbl (fun z => hc (by simp [z])) (fun z => hc (by simp [z])) q⟩
      · rw [nsOne hm Fr0.ns]
        exact F'.ns
      · by_cases hba : b = s.heap.objs.size + 1
        · subst hba
          rw [upd_same] at q
          cases q
          exact ⟨hlen, _, ep, ry, ha'⟩
        · rw [upd_ne hba] at q
          refine (I3.hok b u q).stay (fun c v hc r => kp c v ?_ ?_ ?_ r) (fun c r => by rw [upd_ne (ne_of_none r hna)]; exact r) fun c xs r => by rw [upd_ne (ne_of_none r hna)]; exact r
          · rcases hc with z | z
            · rw [z]; exact ne_of_none q I3.free
            · exact ne_of_none z I3.free
          · rcases hc with z | z
            · rw [z]; exact ne_of_none q hnk
            · exact ne_of_none z hnk
          · rcases hc with z | z
            · rw [z]; exact hba
            · exact ne_of_none z hna
    exact ⟨.ref _, _, fin, rfl, q ys _ _ hy (I.hok.fresh (by omega)) upd_same fun b o z => by rw [upd_ne (ne_of_none (sm b o z) pa.2.1)]; exact sm b o z⟩
end
end Rs

/-! Further readings: zip of tuples, comprehensions that make dicts, locks, sorting. -/
namespace Rw
open PySem PySem.Spec PyProof.Rows L2 Rd
variable {X : Cx} {D : Ends} {σ : L2.St} {H : Hp} {K : PySem.W.Frag}
theorem walk_zipT {a b : Addr} {xs ys : List V} {n : Nat} (hn : n = min xs.length ys.length) : Walk (RZ.ItzT K a b) n (fun H => SqT K H a xs ∧ SqT K H b ys) (YPair (fun i => xs[i]?) (fun i => ys[i]?)) := by
  subst hn
  refine ⟨fun i H hi q => ⟨xs, ys, xs[i]'(by omega), ys[i]'(by omega), q.1, q.2, List.getElem?_eq_getElem _, List.getElem?_eq_getElem _⟩, fun H q => ⟨xs, ys, q.1, q.2, by omega⟩, ?_⟩
  rintro i H v H' _ q ⟨T, x, y, h1, h2, h3, h4, h5⟩
  exact ⟨T, x, y, h1, h2, h3, h4 xs q.1, h5 ys q.2⟩
theorem zipH {ta : TA} {R : It → Hp → Prop} (h : ta σ H fun vs H1 => ∃ a b xs ys, vs = [.ref a, .ref b] ∧ ((SqL K H1 a xs ∧ SqL K H1 b ys ∧ R (Itz K a b) H1) ∨ (SqT K H1 a xs ∧ SqT K H1 b ys ∧ R (RZ.ItzT K a b) H1))) : RZ.iZipA K ta σ H R := h
theorem zipT {a b : Addr} {xs ys : List V} {P Q : Addr → Addr → Prop} (h1 : SqT K H a xs) (h2 : SqT K H b ys) (h : Q a b) : ∃ a' b' xs ys, [V.ref a, V.ref b] = [.ref a', .ref b'] ∧ ((SqL K H a' xs ∧ SqL K H b' ys ∧ P a' b') ∨ (SqT K H a' xs ∧ SqT K H b' ys ∧ Q a' b')) :=
  ⟨a, b, xs, ys, rfl, .inr ⟨h1, h2, h⟩⟩
theorem slT {a : Addr} {xs : List V} {lo hi : Option Int} {Q : VK} (hp : SqT K H a xs) (hw : ¬ (HT.sIx xs.length 0 lo = 0 ∧ HT.sIx xs.length xs.length hi = xs.length)) (h : NewQ (.tup (cutV xs lo hi)) Q H) : rSlT K (.ref a) lo hi H Q := ⟨a, xs, rfl, hp, hw, h⟩
theorem sl1 {a : Addr} {xs : List V} {Q : VK} (hp : SqT K H a xs) (n0 : xs ≠ []) (h : NewQ (.tup xs.tail) Q H) : rSlT K (.ref a) (some 1) none H Q := by
  have l : 1 ≤ xs.length := Nat.one_le_iff_ne_zero.mpr fun e => n0 (List.eq_nil_of_length_eq_zero e)
  have e1 : HT.sIx xs.length 0 (some ((1 : Nat) : Int)) = 1 := by rw [HT.sIx_nat]; omega
  refine slT hp (fun ⟨e, _⟩ => ?_) ?_
  · have e' : HT.sIx xs.length 0 (some ((1 : Nat) : Int)) = 0 := e
    omega
  · have e : cutV xs (some 1) none = xs.tail := by
      show (xs.drop (HT.sIx xs.length 0 (some ((1 : Nat) : Int)))).take (xs.length - HT.sIx xs.length 0 (some ((1 : Nat) : Int))) = xs.tail
      rw [e1, List.drop_one]
      exact List.take_of_length_le (by rw [List.length_tail]; exact Nat.le_refl _)
    rw [e]
    exact h
/-! ### locks -/
def LkE (t : TE) (d : Addr) (u : HO) (σ : L2.St) (H : Hp) (Q : VK) : Prop := ∀ od, t σ (upd H d (.frz od u)) fun v H' => H' d = some (.frz od u) ∧ Q v (upd H' d u)
theorem lockE {t : TE} {d : Addr} {u : HO} {Q : VK} (e : H d = some u) (m : Mut (some u)) (h : ∀ (od : Obj) (G : Hp), G d = some (.frz od u) → (∀ b, b ≠ d → G b = H b) → t σ G fun v H' => H' d = some (.frz od u) ∧ Q v (upd H' d u)) : tLockE t σ H Q :=
  ⟨d, u, e, m, fun od => h od _ upd_same fun b hb => upd_ne hb⟩
theorem itemsH {td : TE} {R : It → Hp → Prop} (h : td σ H fun x H1 => ∃ d o kvs, x = .ref d ∧ H1 d = some (.frz o (.dK kvs)) ∧ R (Iti d o kvs) H1) : iItems td σ H R := h
theorem itemsX {d : Addr} {od : Obj} {kvs : List (Key × V)} {P : Addr → Obj → List (Key × V) → Prop} (e : H d = some (.frz od (.dK kvs))) (h : P d od kvs) : ∃ d' o kvs, V.ref d = .ref d' ∧ H d' = some (.frz o (.dK kvs)) ∧ P d' o kvs := ⟨d, od, kvs, rfl, e, h⟩
theorem keysH {td : TE} {R : It → Hp → Prop} (h : td σ H fun x H1 => ∃ d o, x = .ref d ∧ ((∃ kvs, H1 d = some (.frz o (.dK kvs)) ∧ R (Itk d o kvs) H1) ∨ ∃ kvs, H1 d = some (.frz o (.dT kvs)) ∧ R (Itkt d o kvs) H1)) : iKeys td σ H R := h
theorem keysX {d : Addr} {od : Obj} {kvs : List (Key × V)} {P : Addr → Obj → List (Key × V) → Prop} {P' : Addr → Obj → List (List Key × V) → Prop} (e : H d = some (.frz od (.dK kvs))) (h : P d od kvs) : ∃ d' o, V.ref d = .ref d' ∧ ((∃ kvs, H d' = some (.frz o (.dK kvs)) ∧ P d' o kvs) ∨ ∃ kvs, H d' = some (.frz o (.dT kvs)) ∧ P' d' o kvs) := ⟨d, od, rfl, .inl ⟨kvs, e, h⟩⟩
/-! ### dict comprehensions -/
section
variable {X : Cx}
theorem ps_setDc {i : Nat} {y : Str} {py : Pos} {kx vx tg iter : Expr} {ifs : List Expr} {scope : Scope} {own : List (Str × Nat)} {pos spos : Pos} {wi : TI} {g : TG} {tt : TT} {tk tv : TE} (hc : X.calm = true) (hN : X.N.Nodup) (hy : X.N[i]? = some y) (hyl : X.env.scope.names.lookup y = some .local)
    (hsw : swapsWith (.DictComp kx vx [⟨tg, iter, ifs, 0⟩] scope pos) (some (.Name y py)) spos.line X.env = pure true) (hi : PI X tg iter wi) (ok : BlkOk X.N X.env.scope scope own)
    (hg : ∀ (s : Shared) (H : Hp) (C : Addr) (cl : List (Str × Addr)) (fp : List Addr), PG (X.blk s H scope (compEnvC scope cl C X.env) fp) tg g)
    (ht : ∀ (s : Shared) (H : Hp) (C : Addr) (cl : List (Str × Addr)) (fp : List Addr), PTs (X.blk s H scope (compEnvC scope cl C X.env) fp) ifs tt)
    (hk : ∀ (s : Shared) (H : Hp) (C : Addr) (cl : List (Str × Addr)) (fp : List Addr), PE (X.blk s H scope (compEnvC scope cl C X.env) fp) kx tk)
    (he : ∀ (s : Shared) (H : Hp) (C : Addr) (cl : List (Str × Addr)) (fp : List Addr), PE (X.blk s H scope (compEnvC scope cl C X.env) fp) vx tv) (hs : ∀ x, foldedSetIterable iter X.env x = pure x := by intro _; rfl) :
    PS X (.Assign [.Name y py] (.DictComp kx vx [⟨tg, iter, ifs, 0⟩] scope pos) spos) (tAsg (tDc wi g tt tk tv (own.map (·.2))) (gName i)) := by
  refine ⟨fun pins s σ H D I h => ?_⟩
  have h' : tDc wi g tt tk tv (own.map (·.2)) σ H (fun x H1 => gName i x σ H1 D.nx) := h
  rw [exec_Assign_Name_used _ _ _ _ hsw]
  refine wpAny_bind (wpAny_standAt (wpAny_bind ?_))
  show wpAny _ _ (comprehension (.DictComp kx vx [⟨tg, iter, ifs, 0⟩] scope pos) scope X.env (firstIterPos [⟨tg, iter, ifs, 0⟩] pos) newDict false (eval iter X.env) (some (assign (.Name y py) X.env)) >>= fun _ => pure ()) _ _ s
  refine wpAny_bind (thn (dc_core (use := some (assign (.Name y py) X.env)) (Qf := fun _ s' => SP X pins D .next s') hc hN I hi ok hg ht hk he hs h' fun L C s1 m H1 I1 q hn f => ?_) fun _ s2 hq => wpAny_pure (wpAny_pure hq))
  refine (wpAny_assign_Name (store_ok2 (v := V.ref L) I1 hN hy (.inl hyl) rfl (fun s2 I2 w => ?_) (.inr hyl)) : wpAny _ _ (assign (.Name y py) X.env (.ref L)) _ _ _)
  obtain ⟨b, sb, hb⟩ := w
  obtain ⟨f0, f1, f2, f3, f4, f5⟩ := f
  have ne : C ≠ b := hb.elim (fun z => z ▸ f1) fun z e => f4 y b z e.symm
  exact ⟨m, hn.sameBut sb ne, fun h3 sb3 => ⟨_, H1, I2.turned (t' := s2.toks) (fun c o n e => (sb3.2 c n).trans e) f0 f1 f3 f4 f5, q⟩⟩
theorem sw_dc {kx vx : Expr} {gs : List Comprehension} {scope : Scope} {pos py : Pos} {y : Str} {l : Nat} {env : Env} (hk : env.scope.kind = .function) (hy : env.scope.names.lookup y = some .local) (hl : (py.line == pos.line) = true)
    (ha : (scope.names.any fun (n, k) => n == y && (k == .local || k == .cell)) = false) : swapsWith (.DictComp kx vx gs scope pos) (some (.Name y py)) l env = pure true := by
  have k1 : env.kindOf y = some .local := hy
  have k2 : env.blockKind = .function := by unfold Env.blockKind; rw [hk]; rfl
  unfold swapsWith
  simp only [k2, k1, ha, Expr.pos, hl]
  rfl
end
def Dc (J : It) (g : TG) (tt : TT) (tk tv : TE) (vs : List Nat) (σ : L2.St) (H1 : Hp) (Q : VK) : Prop := ∀ D, H1 D = none → ∃ W : Nat → Nat → Hp → Prop, (∃ m, W 0 m (upd H1 D (.dK []))) ∧ ∀ i m H, W i m H →
  (J.stop i H ∧ Q (.ref D) H) ∨ (J.go i H ∧ ∃ Nx : Hp → Prop, (∀ H', Nx H' → ∃ m', m' < m ∧ W (i + 1) m' H') ∧ ∀ x H', J.yld i H x H' → g x (wipe σ vs) H' fun σ2 H2 => wipe σ2 vs = wipe σ vs ∧ tt σ2 H2 fun b H3 =>
    if b = true then tk σ2 H3 fun y H4 => tv σ2 H4 fun z H5 => ∃ kvs k, y = kV k ∧ H5 D = some (.dK kvs) ∧ kvs.length < sizeLine ∧ Nx (upd H5 D (.dK (putK kvs k z))) else Nx H3)
theorem dc {wi : TI} {g : TG} {tt : TT} {tk tv : TE} {vs : List Nat} {Q : VK} (h : wi σ H fun J H1 => Dc J g tt tk tv vs σ H1 Q) : tDc wi g tt tk tv vs σ H Q := h
def DcPut (D : Addr) (H1 : Hp) (R : Nat → List (Key × V) → Hp → Prop) (i : Nat) (y z : V) (H5 : Hp) : Prop := ∃ kvs k, y = kV k ∧ H5 D = some (.dK kvs) ∧ kvs.length < sizeLine ∧ ∃ kvs', upd H5 D (.dK (putK kvs k z)) D = some (.dK kvs') ∧ Same H1 (upd H5 D (.dK (putK kvs k z))) ∧ R (i + 1) kvs' (upd H5 D (.dK (putK kvs k z)))
def DcNo (D : Addr) (H1 : Hp) (R : Nat → List (Key × V) → Hp → Prop) (i : Nat) (H3 : Hp) : Prop := ∃ kvs', H3 D = some (.dK kvs') ∧ Same H1 H3 ∧ R (i + 1) kvs' H3
theorem dcPut {D : Addr} {H1 H5 : Hp} {R : Nat → List (Key × V) → Hp → Prop} {i : Nat} {k : Key} {z : V} {kvs : List (Key × V)} (hD : H5 D = some (.dK kvs)) (nD : H1 D = none) (s : Same H1 H5) (hz : kvs.length < sizeLine) (r : ∀ G : Hp, G D = some (.dK (putK kvs k z)) → (∀ b, b ≠ D → G b = H5 b) → R (i + 1) (putK kvs k z) G) : DcPut D H1 R i (kV k) z H5 :=
  ⟨kvs, k, rfl, hD, hz, _, upd_same, fun b o e => by rw [upd_ne (ne_of_none e nD)]; exact s b o e, r _ upd_same fun b hb => upd_ne hb⟩
theorem dcS {J : It} {n : Nat} {G : Hp → Prop} {Y : Nat → Hp → V → Hp → Prop} (w : Walk J n G Y) {g : TG} {tt : TT} {tk tv : TE} {vs : List Nat} {H1 : Hp} {Q : VK} (hG : ∀ H, Same H1 H → G H) (R : Addr → Nat → List (Key × V) → Hp → Prop)
    (r0 : ∀ (D : Addr) (G : Hp), H1 D = none → G D = some (.dK []) → Same H1 G → R D 0 [] G)
    (hs : ∀ (D : Addr) i x H H' kvs, H1 D = none → i < n → H D = some (.dK kvs) → Same H1 H → R D i kvs H → Y i H x H' → g x (wipe σ vs) H' fun σ2 H2 => wipe σ2 vs = wipe σ vs ∧ tt σ2 H2 fun b H3 =>
      if b = true then tk σ2 H3 fun y H4 => tv σ2 H4 fun z H5 => DcPut D H1 (R D) i y z H5 else DcNo D H1 (R D) i H3)
    (hd : ∀ (D : Addr) kvs H, H1 D = none → H D = some (.dK kvs) → Same H1 H → R D n kvs H → Q (.ref D) H) : Dc J g tt tk tv vs σ H1 Q := fun D nD => by
  refine ⟨fun i m H => m = n - i ∧ i ≤ n ∧ ∃ kvs, H D = some (.dK kvs) ∧ Same H1 H ∧ R D i kvs H, ⟨n, by simp, Nat.zero_le _, [], upd_same, same_upd nD, r0 D _ nD upd_same (same_upd nD)⟩, ?_⟩
  rintro i m H ⟨rfl, hi, kvs, h1, h2, h3⟩
  have q := hG H h2
  by_cases hlt : i < n
  · refine .inr ⟨w.goes i H hlt q, fun H => ∃ kvs, H D = some (.dK kvs) ∧ Same H1 H ∧ R D (i + 1) kvs H, fun H' p' => ⟨n - (i + 1), by omega, rfl, hlt, p'⟩, fun x H' y => ?_⟩
    exact hs D i x H H' kvs nD hlt h1 h2 h3 (w.yields i H x H' hlt q y)
  · have e : i = n := by omega
    subst e
    exact .inl ⟨w.stops H q, hd D kvs H nD h1 h2 h3⟩
/-! ### sorted -/
theorem sortD {β : Type} {a : Addr} {xs : List V} {bs : List β} {Q : VK} (k : β → PyData) (R : V → β → Prop) (hs : SqL K H a xs) (he : PySem.W.EachIs (fun x b => Dp K H x (k b) ∧ R x b) xs bs) (hk : Rs.Keys (bs.map k))
    (h : ∀ (out : List V) (p : Addr) (G : Hp), PySem.W.EachIs (fun x b => Dp K H x (k b) ∧ R x b) out (bs.mergeSort (PySem.W.dataLe false k)) → H p = none → G p = some (.lst out) → Same H G → Q (.ref p) G) : Rs.rSortD K [.ref a] H Q :=
  ⟨a, xs, β, bs, k, R, rfl, hs, he, hk, h⟩
def SortK (f : Addr) (sp : Sp) (K : PySem.W.Frag) (vs zs : List V) (H : Hp) (Q : VK) : Prop := Rs.rSortK f sp K vs zs H Q
theorem ckw {r : List V → List V → Hp → VK → Prop} {t tk : TA} {Q : VK} (h : t σ H fun vs H1 => tk σ H1 fun zs H2 => r vs zs H2 Q) : tCKw r t tk σ H Q := h
theorem sortK {β : Type} {f : Addr} {sp : Sp} {a : Addr} {xs : List V} {bs : List β} {Q : VK} (k : β → PyData) (R : V → β → Prop) (hs : SqL K H a xs) (he : PySem.W.EachIs R xs bs) (hk : Rs.Keys (bs.map k))
    (hf : ∀ x b H1, Same H H1 → b ∈ bs → R x b → sp [x] H1 (fun v H2 => Same H1 H2 ∧ Dp K H2 v (k b)) (fun _ _ _ => False))
    (h : ∀ (out : List V) (p : Addr) (G : Hp), PySem.W.EachIs R out (bs.mergeSort (PySem.W.dataLe false k)) → H p = none → G p = some (.lst out) → Same H G → Q (.ref p) G) : Rs.rSortK f sp K [.ref a] [.ref f] H Q :=
  ⟨a, xs, β, bs, k, R, rfl, rfl, hs, he, hk, hf, h⟩
def DClr : V → List V → Hp → VK → Prop := rDClear
theorem clr {a : Addr} {kvs : List (Key × V)} {Q : VK} (e : H a = some (.dK kvs)) (h : ∀ G : Hp, G a = some (.dK []) → (∀ b, b ≠ a → G b = H b) → Q .non G) : rDClear (.ref a) [] H Q := ⟨a, kvs, rfl, rfl, e, h _ upd_same fun b hb => upd_ne hb⟩
end Rw
namespace Rd
open PySem PySem.Spec PyProof.Rows L2
variable {σ : L2.St} {H : Hp} {K : PySem.W.Frag}
theorem notT {ta : TE} {Q : VK} (h : ta σ H fun x H1 => ∃ k, TruV K x H1 k ∧ Q (.bl (!k)) H1) : tNotT K ta σ H Q := h
theorem yes {c A B : Prop} {i : Decidable c} (h : c) (a : A) : @ite Prop c i A B := by rw [if_pos h]; exact a
theorem no {c A B : Prop} {i : Decidable c} (h : ¬ c) (a : B) : @ite Prop c i A B := by rw [if_neg h]; exact a
theorem ifX {x : V} {i : Decidable (x = V.non)} {A B : Prop} (n : x ≠ .non) (h : B) : @ite Prop (x = V.non) i A B := by rw [if_neg n]; exact h
theorem ifR {a : Addr} {i : Decidable (V.ref a = V.non)} {A B : Prop} (h : B) : @ite Prop (V.ref a = V.non) i A B := ifX (by intro e; cases e) h
theorem ifI {a : Int} {i : Decidable (V.int a = V.non)} {A B : Prop} (h : B) : @ite Prop (V.int a = V.non) i A B := ifX (by intro e; cases e) h
theorem ifT {a : Str} {i : Decidable (V.str a = V.non)} {A B : Prop} (h : B) : @ite Prop (V.str a = V.non) i A B := ifX (by intro e; cases e) h
theorem ifN {i : Decidable (V.non = V.non)} {A B : Prop} (h : A) : @ite Prop (V.non = V.non) i A B := by rw [if_pos rfl]; exact h
theorem orTH {ta tb : TE} {Q : VK} (h : ta σ H fun x H1 => ∃ k, TruV K x H1 k ∧ if k = true then Q x H1 else tb σ H1 Q) : tOrT K ta tb σ H Q := h
end Rd

/-! len(set(t)) of a tuple of ints. -/
namespace Rv
open PySem PySem.Spec PyProof.Rows L2
def tLenSetT (K : PySem.W.Frag) (ta : TE) : TE := fun σ H Q => ta σ H fun x H1 => ∃ (l : Addr) (ns : List Int), x = .ref l ∧ SqT K H1 l (ns.map V.int) ∧ ns.length ≤ 4000 ∧ ∀ ks : List Int, ks.Nodup → (∀ k, k ∈ ks ↔ k ∈ ns) → Q (.int (ks.length : Nat)) H1
theorem lenSetT {K : PySem.W.Frag} {σ : L2.St} {H : Hp} {ta : TE} {Q : VK} (h : ta σ H fun x H1 => ∃ (l : Addr) (ns : List Int), x = .ref l ∧ SqT K H1 l (ns.map V.int) ∧ ns.length ≤ 4000 ∧ ∀ ks : List Int, ks.Nodup → (∀ k, k ∈ ks ↔ k ∈ ns) → Q (.int (ks.length : Nat)) H1) : tLenSetT K ta σ H Q := h
section
variable {X : Cx}
theorem pe_lenSetT {a : Expr} {ta : TE} {p p2 q pos : Pos} (hc : X.calm = true) (hg : Gl X "len") (hm : X.mg "len" = none) (hg2 : Gl X "set") (hm2 : X.mg "set" = none) (ha : PE X a ta)
    (na : starEach [a] X.env = (false, eval a X.env) :: starEach [] X.env := by rfl) : PE X (.Call (.Name "len" p) [.Call (.Name "set" p2) [a] [] q] [] pos) (tLenSetT X.K ta) := by
  refine ⟨fun pins s σ H Q I h => Call_ (ld_blt I hg hm boot_len (callWith_builtin1 (args_cons (Call_ (ld_blt I hg2 hm2 boot_set (callWith_type1 (args_cons (thn (ha.run pins s σ H _ I h) fun v s1 ⟨x, H1, I1, r1, q1⟩ => args_nil ?_) na) na rfl))) rfl) rfl rfl))⟩
  obtain ⟨l, ns, rfl, hq, few, q1⟩ := q1
  cases r1
  obtain ⟨its, r, pl, hz⟩ := I1.tuple hq
  refine call_set_tupI ns (I1.ok.hd hc) pl (by simpa using RZ.intsAre_vals r) (by unfold scanBound; omega) fun h' tk c hS hcn keep => ?_
  refine args_nil ?_
  obtain ⟨o, es, ep, t, ho, hex, hd, _, nd, mem, _, hf, hn, _⟩ := hS
  have I2 : Inv X pins σ H1 { s1 with heap := h', toks := tk } := I1.kept fun b o e => keep b o e
  have q2 := q1 (es.toList.map keyOf) nd fun k => by
    rw [← mem k, decide_eq_true_iff]
  rw [List.length_map, Array.length_toList] at q2
  exact call_len_set ho hex hd hf (by omega) ⟨.int es.size, H1, I2.tok _, ⟨_, rfl⟩, q2⟩
end
end Rv

/-! Things of any kind, one level deep; exceptions of the program: made, raised, caught, asked. -/
namespace Rx
open PySem PySem.Spec PyProof.Rows L2 Rd
variable {X : Cx} {D : Ends} {σ : L2.St} {H H' : Hp} {K : PySem.W.Frag}
/-! ### kinds -/
inductive Kd where
  | non | bl (b : Bool) | int (i : Int) | str (z : Str) | lst (xs : List V) | tup (xs : List V) | dct
def Kd.ty : Kd → String
  | .non => "NoneType" | .bl _ => "bool" | .int _ => "int" | .str _ => "str" | .lst _ => "list" | .tup _ => "tuple" | .dct => "dict"
/-- what stands at a value -/
inductive Is (H : Hp) : V → Kd → Prop where
  | non : Is H .non .non
  | bl (b : Bool) : Is H (.bl b) (.bl b)
  | int (i : Int) : Is H (.int i) (.int i)
  | str {z : Str} (l : z.length ≤ 1000000) : Is H (.str z) (.str z)
  | lst {a : Addr} {xs : List V} (h : H a = some (.lst xs)) (l : xs.length ≤ 1000000) : Is H (.ref a) (.lst xs)
  | tup {a : Addr} {xs : List V} (h : H a = some (.tup xs)) (l : xs.length ≤ 1000000) : Is H (.ref a) (.tup xs)
  | dct {a : Addr} {kvs : List (Key × V)} (h : H a = some (.dK kvs)) : Is H (.ref a) .dct
theorem Is.same {x : V} {k : Kd} (s : Same H H') (h : Is H x k) : Is H' x k := by
  cases h with
  | non => exact .non
  | bl b => exact .bl b
  | int i => exact .int i
  | str l => exact .str l
  | lst h l => exact .lst (s _ _ h) l
  | tup h l => exact .tup (s _ _ h) l
  | dct h => exact .dct (s _ _ h)
theorem Is.inj {x : V} {k k' : Kd} (h : Is H x k) (h' : Is H x k') : k = k' := by
  cases h <;> cases h' <;> first | rfl | (rename_i a b c d; first | (rw [a] at c; cases c; rfl) | (rw [a] at c; cases c) | (rw [a] at d; cases d) | skip) <;> simp_all
theorem Is.ty {x : V} {k : Kd} (h : Is H x k) : TyX K H x (.type k.ty) := by
  cases h with
  | non => exact .base .non
  | bl b => exact .base (.bl b)
  | int i => exact .base (.int i)
  | str l => exact .base (.str _)
  | lst h l => exact .base (.lst h)
  | tup h l => exact .base (.tup h)
  | dct h => exact .base (.dK h)
def Kd.isInt : Kd → Bool | .int _ => true | .bl _ => true | _ => false
def Kd.isBl : Kd → Bool | .bl _ => true | _ => false
def Kd.isStr : Kd → Bool | .str _ => true | _ => false
def Kd.isLst : Kd → Bool | .lst _ => true | _ => false
def Kd.isTup : Kd → Bool | .tup _ => true | _ => false
def Kd.isDct : Kd → Bool | .dct => true | _ => false
def Kd.isSeq : Kd → Bool | .lst _ => true | .tup _ => true | _ => false
/-- an integer and no flag -/
def Kd.isNum : Kd → Bool | .int _ => true | _ => false
theorem kdInt : ∀ k : Kd, kitB k.ty "int" = some k.isInt
  | .non => (by decide +kernel : kitB "NoneType" "int" = some false)
  | .bl _ => (by decide +kernel : kitB "bool" "int" = some true)
  | .int _ => (by decide +kernel : kitB "int" "int" = some true)
  | .str _ => (by decide +kernel : kitB "str" "int" = some false)
  | .lst _ => (by decide +kernel : kitB "list" "int" = some false)
  | .tup _ => (by decide +kernel : kitB "tuple" "int" = some false)
  | .dct => (by decide +kernel : kitB "dict" "int" = some false)
theorem kdBl : ∀ k : Kd, kitB k.ty "bool" = some k.isBl
  | .non => (by decide +kernel : kitB "NoneType" "bool" = some false)
  | .bl _ => (by decide +kernel : kitB "bool" "bool" = some true)
  | .int _ => (by decide +kernel : kitB "int" "bool" = some false)
  | .str _ => (by decide +kernel : kitB "str" "bool" = some false)
  | .lst _ => (by decide +kernel : kitB "list" "bool" = some false)
  | .tup _ => (by decide +kernel : kitB "tuple" "bool" = some false)
  | .dct => (by decide +kernel : kitB "dict" "bool" = some false)
theorem kdStr : ∀ k : Kd, kitB k.ty "str" = some k.isStr
  | .non => (by decide +kernel : kitB "NoneType" "str" = some false)
  | .bl _ => (by decide +kernel : kitB "bool" "str" = some false)
  | .int _ => (by decide +kernel : kitB "int" "str" = some false)
  | .str _ => (by decide +kernel : kitB "str" "str" = some true)
  | .lst _ => (by decide +kernel : kitB "list" "str" = some false)
  | .tup _ => (by decide +kernel : kitB "tuple" "str" = some false)
  | .dct => (by decide +kernel : kitB "dict" "str" = some false)
theorem kdLst : ∀ k : Kd, kitB k.ty "list" = some k.isLst
  | .non => (by decide +kernel : kitB "NoneType" "list" = some false)
  | .bl _ => (by decide +kernel : kitB "bool" "list" = some false)
  | .int _ => (by decide +kernel : kitB "int" "list" = some false)
  | .str _ => (by decide +kernel : kitB "str" "list" = some false)
  | .lst _ => (by decide +kernel : kitB "list" "list" = some true)
  | .tup _ => (by decide +kernel : kitB "tuple" "list" = some false)
  | .dct => (by decide +kernel : kitB "dict" "list" = some false)
theorem kdTup : ∀ k : Kd, kitB k.ty "tuple" = some k.isTup
  | .non => (by decide +kernel : kitB "NoneType" "tuple" = some false)
  | .bl _ => (by decide +kernel : kitB "bool" "tuple" = some false)
  | .int _ => (by decide +kernel : kitB "int" "tuple" = some false)
  | .str _ => (by decide +kernel : kitB "str" "tuple" = some false)
  | .lst _ => (by decide +kernel : kitB "list" "tuple" = some false)
  | .tup _ => (by decide +kernel : kitB "tuple" "tuple" = some true)
  | .dct => (by decide +kernel : kitB "dict" "tuple" = some false)
theorem kdDct : ∀ k : Kd, kitB k.ty "dict" = some k.isDct
  | .non => (by decide +kernel : kitB "NoneType" "dict" = some false)
  | .bl _ => (by decide +kernel : kitB "bool" "dict" = some false)
  | .int _ => (by decide +kernel : kitB "int" "dict" = some false)
  | .str _ => (by decide +kernel : kitB "str" "dict" = some false)
  | .lst _ => (by decide +kernel : kitB "list" "dict" = some false)
  | .tup _ => (by decide +kernel : kitB "tuple" "dict" = some false)
  | .dct => (by decide +kernel : kitB "dict" "dict" = some true)
theorem askInt {x : V} {k : Kd} {Q : VK} (h : Is H x k) (q : Q (.bl k.isInt) H) : rIsi K [x, .ty "int"] H Q := Rd.isi h.ty (kdInt k) q
theorem askBl {x : V} {k : Kd} {Q : VK} (h : Is H x k) (q : Q (.bl k.isBl) H) : rIsi K [x, .ty "bool"] H Q := Rd.isi h.ty (kdBl k) q
theorem askStr {x : V} {k : Kd} {Q : VK} (h : Is H x k) (q : Q (.bl k.isStr) H) : rIsi K [x, .ty "str"] H Q := Rd.isi h.ty (kdStr k) q
theorem askLst {x : V} {k : Kd} {Q : VK} (h : Is H x k) (q : Q (.bl k.isLst) H) : rIsi K [x, .ty "list"] H Q := Rd.isi h.ty (kdLst k) q
theorem askTup {x : V} {k : Kd} {Q : VK} (h : Is H x k) (q : Q (.bl k.isTup) H) : rIsi K [x, .ty "tuple"] H Q := Rd.isi h.ty (kdTup k) q
theorem askDct {x : V} {k : Kd} {Q : VK} (h : Is H x k) (q : Q (.bl k.isDct) H) : rIsi K [x, .ty "dict"] H Q := Rd.isi h.ty (kdDct k) q
/-- (list, tuple) was just laid at tp -/
theorem askSeq {x : V} {k : Kd} {tp : Addr} {Q : VK} (ht : H tp = some (.tup [.ty "list", .ty "tuple"])) (h : Is H x k) (q : Q (.bl k.isSeq) H) : rIsiT K [x, .ref tp] H Q := by
  refine ⟨_, tp, _, _, [.type "list", .type "tuple"], k.isSeq, rfl, ht, .cons (.ty _) (.cons (.ty _) .nil), h.ty, ?_, q⟩
  have e1 := kdLst k
  have e2 := kdTup k
  refine kitAny_cons (kit_ty e1) (fun z1 => kitAny_cons (kit_ty e2) (fun z2 => ?_) fun z => ?_) fun z => ?_
  · rw [kitAny_nil]
    cases k <;> first | rfl | (cases z1; done) | (cases z2; done)
  · cases k <;> first | rfl | cases z
  · cases k <;> first | rfl | cases z
/-! ### equal without a look inside -/
/-- the one is the other, or both are equal data -/
def EqI (K : PySem.W.Frag) (H : Hp) (x y : V) : Prop := (x = y ∧ flatB x = true) ∨ (∃ a, x = .ref a ∧ y = .ref a) ∨ ∃ d e, Dp K H x d ∧ Dp K H y e ∧ SeqAt.shaped d = true ∧ SeqAt.shaped e = true ∧ PyData.eqv d e = true
theorem eqI_run {pins : List (Addr × Obj)} {s : Shared} (I : Inv X pins σ H s) {A : Around} (hu : A.units + 64 < cLine) {x y : V} {v u : Value} (h : EqI X.K H x y) (rx : RelV x v) (ry : RelV y u) : SeqAt.EqAt A s v u true := by
  rcases h with ⟨rfl, f⟩ | ⟨a, rfl, rfl⟩ | ⟨d, e, hd, he, sd, se, q⟩
  · exact eqAt_same rx ry f
  · cases (show v = Value.ref a from rx)
    cases (show u = Value.ref a from ry)
    exact SeqAt.EqAt.same _
  · obtain ⟨as, r1⟩ := Dp.reads I d x v hd rx
    obtain ⟨bs, r2⟩ := Dp.reads I e y u he ry
    have z := SeqAt.eqAt_reads d e A s v u as bs r1 r2 (SeqAt.canLay_of_shaped sd) (SeqAt.canLay_of_shaped se) (SeqAt.room_of_shaped sd hu)
    rw [q] at z
    exact z
theorem eqIs_run {pins : List (Addr × Obj)} {s : Shared} (I : Inv X pins σ H s) {A : Around} (hu : A.units + 64 < cLine) {xs ys : List V} (hp : Paired (EqI X.K H) xs ys) :
    ∀ {us ws : List Value}, Vals xs us → Vals ys ws → ∀ j (h1 : j < us.length) (h2 : j < ws.length), SeqAt.EqAt A s us[j] ws[j] true := by
  induction hp with
  | nil =>
    intro us ws r1 r2 j h1 h2
    cases r1
    exact absurd h1 (Nat.not_lt_zero j)
  | cons h _ k =>
    intro us ws r1 r2 j h1 h2
    cases r1 with
    | cons a1 b1 =>
      cases r2 with
      | cons a2 b2 =>
        cases j with
        | zero => exact eqI_run I hu h a1 a2
        | succ j => exact k b1 b2 j (Nat.lt_of_succ_lt_succ h1) (Nat.lt_of_succ_lt_succ h2)
/-- two tuples whose items are equal -/
def TupEq (K : PySem.W.Frag) (H : Hp) (x y : V) : Prop := ∃ a b xs ys, x = .ref a ∧ y = .ref b ∧ SqT K H a xs ∧ SqT K H b ys ∧ Paired (EqI K H) xs ys
def rEqX (K : PySem.W.Frag) : R2 := fun x y H Q => TupEq K H x y ∧ Q (.bl true) H
def rNeX (K : PySem.W.Frag) : R2 := fun x y H Q => TupEq K H x y ∧ Q (.bl false) H
theorem op_neX (hu : X.A.units + 66 < cLine) : OpR X (compareOp .NotEq) (rNeX X.K) := by
  intro pins s σ H x y v u Q I rx ry h
  obtain ⟨⟨a, b, xs, ys, rfl, rfl, ha, hb, hp⟩, q⟩ := h
  cases (show v = Value.ref a from rx)
  cases (show u = Value.ref b from ry)
  obtain ⟨us, r1, p1⟩ := I.tuple ha
  obtain ⟨ws, r2, p2⟩ := I.tuple hb
  have hsz : us.toArray.size = ws.toArray.size := by
    rw [List.size_toArray, List.size_toArray, ← r1.length, ← r2.length]
    exact Paired.length hp
  refine SeqAt.RcNeAt.tuples (e := fun _ => true) p1.1 p2.1 (by omega) (fun j h1 h2 => ?_) X.prog X.w _ _ ?_
  · have k := eqIs_run I (A := X.A.in1) (by show X.A.units + 1 + 64 < cLine; omega) hp r1 r2 j (by simpa using h1) (by simpa using h2)
    simpa using k
  · rw [show ((List.range (min us.toArray.size ws.toArray.size)).all fun _ => true) = true from List.all_eq_true.mpr fun _ _ => rfl, hsz]
    exact ⟨.bl false, H, I, by simp [L2.RelV], q⟩
theorem op_eqX (hu : X.A.units + 66 < cLine) : OpR X (compareOp .Eq) (rEqX X.K) := by
  intro pins s σ H x y v u Q I rx ry h
  obtain ⟨⟨a, b, xs, ys, rfl, rfl, ha, hb, hp⟩, q⟩ := h
  cases (show v = Value.ref a from rx)
  cases (show u = Value.ref b from ry)
  obtain ⟨us, r1, p1⟩ := I.tuple ha
  obtain ⟨ws, r2, p2⟩ := I.tuple hb
  have hsz : us.toArray.size = ws.toArray.size := by
    rw [List.size_toArray, List.size_toArray, ← r1.length, ← r2.length]
    exact Paired.length hp
  refine SeqAt.RcAt.tuples (e := fun _ => true) p1.1 p2.1 (by omega) (fun j h1 h2 => ?_) X.prog X.w _ _ ?_
  · have k := eqIs_run I (A := X.A.in1) (by show X.A.units + 1 + 64 < cLine; omega) hp r1 r2 j (by simpa using h1) (by simpa using h2)
    simpa using k
  · rw [show ((List.range (min us.toArray.size ws.toArray.size)).all fun _ => true) = true from List.all_eq_true.mpr fun _ _ => rfl, hsz]
    exact ⟨.bl true, H, I, by simp [L2.RelV], q⟩
end Rx
namespace Rx
open PySem PySem.Spec PyProof.Rows L2 Rd
/-! ### classes of exceptions, their __init__(self, value) at fI -/
structure ExcF (K : PySem.W.Frag) (fI C : Addr) : Prop where
  ox : OexC K C
  is : ExcC K C
  iC : PySem.W.findIn K (.ref C) "__init__" = some (some (.ref fI))
  nv : PySem.W.findIn K (.ref C) "value" = some none
  cl : PySem.W.isClsIn K C = true
  self : PySem.W.subIn K (.ref C) (.ref C) = some true
section
variable {K : PySem.W.Frag} {fI C E : Addr} {b : Bool}
theorem kitC (FE : ExcF K fI E) (h : PySem.W.subIn K (.ref C) (.ref E) = some b) : PySem.W.kitCls K (.ref C) (.ref E) = some b := by
  have h2 : (PySem.W.clsIn K E).isSome = true := FE.cl
  have e2 : ((PySem.W.clsIn K E).isSome && PySem.W.typeIn K (.ref E) == some (.type "type")) = true := by
    rw [h2, FE.ox.tyC] <;> rfl
  show (if ((PySem.W.clsIn K E).isSome && PySem.W.typeIn K (.ref E) == some (.type "type")) = true then PySem.W.subIn K (.ref C) (.ref E) else none) = some b
  rw [if_pos e2]
  exact h
theorem kit (FC : ExcF K fI C) (FE : ExcF K fI E) (h : PySem.W.subIn K (.ref C) (.ref E) = some b) : PySem.W.kitOne K (.ref C) (.ref E) = some b := by
  unfold PySem.W.kitOne
  by_cases c : C = E
  · subst c
    rw [FC.self] at h
    cases h
    rw [if_pos (beq_self_eq_true _)]
  · rw [if_neg (fun z => c (by simpa using z))]
    exact kitC FE h
theorem exm (FE : ExcF K fI E) (h : PySem.W.subIn K (.ref C) (.ref E) = some b) : PySem.W.exmOne K (.ref C) (.ref E) = some b := by
  have e1 : (PySem.W.subIn K (.ref E) (.type "BaseException") == some true) = true := by rw [FE.is.hs] <;> rfl
  show (if (PySem.W.subIn K (.ref E) (.type "BaseException") == some true) = true then PySem.W.kitCls K (.ref C) (.ref E) else none) = some b
  rw [if_pos e1]
  exact kitC FE h
end
/-! ### monotone readings -/
def tMono (te : TE) : TE := fun σ H Q => ∃ Q0 : VK, te σ H Q0 ∧ ∀ v H1, Q0 v H1 → Q v H1
theorem pe_mono {X : Cx} {e : Expr} {te : TE} (he : PE X e te) : PE X e (tMono te) := ⟨fun pins s σ H Q I h => by
  obtain ⟨Q0, h, imp⟩ := h
  exact thn (he.run pins s σ H Q0 I h) fun u s1 ⟨v, H1, I1, r1, q⟩ => ⟨v, H1, I1, r1, imp v H1 q⟩⟩
/-! ### raise C(e) -/
/-- self.value = value -/
def spWe (K : PySem.W.Frag) : Sp := fun vs H Q _ => ∃ (a C : Addr) (v : V), vs = [.ref a, v] ∧ OexC K C ∧ PySem.W.findIn K (.ref C) "value" = some none ∧ H a = some (exo a C none) ∧
  ∀ dx, H dx = none → dx ≠ a → Q .non (upd (upd H dx (exd dx [("value", v)])) a (exo a C (some dx)))
/-- behind: the exception's dict d is new and holds v -/
def RaiseQ (C : Addr) (v : V) (H1 : Hp) (Q : XK) : Prop := ∀ (d : Addr) (H2 : Hp), H1 d = none → H2 d = some (.xd [("value", v)]) → (∀ b, b ≠ d → H2 b = H1 b) → Q (.ref C) (some d) H2
def tRaise (C : Addr) (W : WX) (te : TE) : TS := fun _ σ H => te σ H fun v H1 => RaiseQ C v H1 fun cls d H2 => W cls d σ H2
theorem raiseH {C : Addr} {W : WX} {te : TE} {D : Ends} {σ : L2.St} {H : Hp} (h : te σ H fun v H1 => RaiseQ C v H1 fun cls d H2 => W cls d σ H2) : tRaise C W te D σ H := h
/-- what a raised exception leaves: all as it was, and its value in its dict -/
def Raised (C : Addr) (v : V) (H : Hp) (E : XK) : Prop := ∀ (d : Addr) (H2 : Hp), H d = none → H2 d = some (.xd [("value", v)]) → Same H H2 → E (.ref C) (some d) H2
theorem Raised.now {C : Addr} {v : V} {H H1 : Hp} {E : XK} (r : Raised C v H E) (s : Same H H1) : RaiseQ C v H1 E := fun d H2 n e k =>
  r d H2 (s.free n) e fun b o q => (k b (ne_of_none (s _ _ q) n)).trans (s _ _ q)
theorem mk_reads {K : PySem.W.Frag} {fI C : Addr} {te : TE} {σ : L2.St} {H : Hp} {Q : XK} (F : ExcF K fI C) (h : te σ H fun v H1 => RaiseQ C v H1 Q) : tMkO C (spWe K) [] (tCons (tMono te) tNil) σ H Q := by
  refine ⟨_, h, fun v H1 hv => ?_⟩
  refine ⟨(by decide : 1 ≤ 1000), fun a na => ⟨a, C, v, rfl, F.ox, F.nv, upd_same, fun dx ndx ne => ⟨rfl, dx, [("value", v)], upd_same, ?_, ?_, ?_⟩⟩⟩
  · rw [upd_ne ne, upd_same]
  · rw [upd_ne ne] at ndx
    exact ndx
  · rw [upd_ne ne] at ndx
    refine hv dx _ ndx upd_same fun b hb => ?_
    rw [upd_ne hb]
    by_cases c : b = a
    · rw [c, del_same, na]
    · rw [del_ne c, upd_ne c, upd_ne hb, upd_ne c]
section
variable {X : Cx} {x : Str} {e : Expr} {te : TE} {p pos pos2 : Pos} {C fI : Addr} {k : Nat} {fd : FuncData} {W : WX}
theorem ps_raise1 (hc : X.calm = true) (F : ExcF X.K fI C) (tI : PySem.W.typeIn X.K (.ref fI) = some (.type "function")) (F1 : FnOk X.prog X.w X.K X.mg X.base CX0 k fI fd ["self", "value"] (spWe X.K)) (hr : Room (k + 1) X.A) (hb : Binds X.K fd ["self", "value"] [])
    (hg : Gl X x) (hm : X.mg x = some (.ref C)) (tk : Takes X W) (he : PE X e te) (hdb : (x == ("__debug__" : Str)) = false := by decide) (hs : starEach (e :: []) X.env = (false, eval e X.env) :: starEach [] X.env := by rfl) (hpl : (backTo pos (starEach [] X.env)).any (·.1) = false := by rfl) :
    PS X (.Raise (some (.Call (.Name x p) [e] [] pos)) none pos2) (tRaise C W te) :=
  have z := ps_raise (pos := pos2) hc tk (pmk_oex (p := p) (pos := pos) F.ox F.iC tI F1 hr hb .nil (CX := CX0) (fun _ _ _ _ _ _ _ h => h.elim) hg hm (pa_cons (pe_mono he) pa_nil hs) hdb hs hpl)
  ⟨fun pins s σ H D I h => z.run pins s σ H D I (mk_reads F h)⟩
end
/-! ### what is asked of a caught exception -/
def rIsX (K : PySem.W.Frag) (a : Addr) (cls : Value) (d : Option Addr) : List V → Hp → VK → Prop := fun xs H Q => ∃ (D dd : Addr) (fs : List (Str × V)) (c : V) (cv : Value) (b : Bool), cls = .ref D ∧ d = some dd ∧ ExcC K D ∧ H dd = some (.xd fs) ∧ xs = [.ref a, c] ∧
  ClsV c cv ∧ PySem.W.kitOne K (.ref D) cv = some b ∧ Q (.bl b) H
end Rx
namespace PySem.W
open PySem PySem.Spec PySem.Calls PyProof.Rows
section
variable {prog : Program} {w : World} {A : Around} {E : Value → Shared → Prop} {s : Shared} {K : Frag} {x D : Addr} {ox : Obj} {od : Option Obj}
theorem findObj_dataX {C : Addr} {name : Str} {a g : Value} (hc : (clsIn K C).isSome = true) (ha : findIn K (.ref C) name = some (some a)) (hg : specialIn K a "__get__" = some (some g)) (ht : takesIn K a = some true) : findObj K C od name = some (.bind g a) := by
  obtain ⟨cd, hc⟩ := Option.isSome_iff_exists.mp hc
  unfold findObj
  rw [hc, Option.bind_some, ha, Option.bind_some]
  simp [hg, ht]
theorem kin_classX {Q : Option Value → Shared → Prop} (hga : findIn K (.ref D) "__getattribute__" = some (some (.builtin "BaseException.__getattribute__"))) (hgt : findIn K (.ref D) "__getattr__" = some none) (hsub : subIn K (.ref D) (.type "BaseException") = some true)
    (hdct : hasDictIn K D = true) (ha : findIn K (.ref D) "__class__" = some (some (.builtin "object.__class__")))
    (hn : specialIn K (.builtin "object.__class__") "__get__" = some (some (.builtin "getset_descriptor.__get__"))) (htk : takesIn K (.builtin "object.__class__") = some true) (hm : mroIn K D (.type "object") = some true)
    (X : K.In s.heap) (I : InstAt s.heap x ox D od) (h : Q (some (.ref D)) { s with toks := s.toks + 1 }) : wpAny (model prog w) A (getAttr? (.ref x) "__class__") Q E s := by
  have hf : findObj K D od "__class__" = some (.bind (.builtin "getset_descriptor.__get__") (.builtin "object.__class__")) := findObj_dataX (by obtain ⟨cd, hc, _⟩ := any_some hdct; rw [hc]; rfl) ha hn htk
  obtain ⟨hp, g, d, t, os⟩ := s
  have L0 := I.type (M := model prog w)
  have L1 := looks_findIn (M := model prog w) X hga
  have L2 := looks_findIn (M := model prog w) X hgt
  have L3 := looks_find (M := model prog w) X I hf
  have sub : Looks (model prog w) hp (isInstance (.ref x) (.type "BaseException")) true := L0.andThen (looks_subIn X hsub)
  have hx0 : (false && onTheHeap (Value.builtin "BaseException.__getattribute__")) = false := rfl
  have hx2 : (Value.builtin "BaseException.__getattribute__" == Value.builtin "object.__getattribute__") = false := by decide +kernel
  have hx1 : (onTheHeap (Value.ref D) && Value.builtin "BaseException.__getattribute__" == Value.builtin "object.__getattribute__") = false := by rw [hx2]; rfl
  unfold getAttr? getAttrBy? getAttrBy
  refine wpAny_bind (wpAny_mkText (wpAny_bind (wpAny_attempt (wpAny_holding (wpAny_bind (L0.at (wpAny_bind (L1.at ?_))))))))
  show wpAny _ _ (if (onTheHeap (Value.ref D) && Value.builtin "BaseException.__getattribute__" == Value.builtin "object.__getattribute__") = true then _ else _) _ _ _
  rw [hx1, if_neg Bool.false_ne_true]
  unfold getAttrByItsOwn hookBefore
  refine wpAny_bind ?_
  rw [if_pos (show onTheHeap (Value.ref D) = true from rfl)]
  refine L2.at ?_
  refine wpAny_bind (wpAny_attempt (wpAny_holding ?_))
  unfold callGetattribute
  rw [hx0, if_neg Bool.false_ne_true]
  unfold boundAndCalled
  rw [PySem.F.excAttr_ValueError.ga.bind (.ref x)]
  refine wpAny_bind (wpAny_pure ?_)
  show wpAny _ _ (call (.builtin "BaseException.__getattribute__") [.ref x, .str "__class__" t]) _ _ _
  refine wpAny_call (codeAny_call_builtin PySem.F.excAttr_ValueError.ga.plain PySem.F.entry_bexc_ga ?_)
  refine @check_slot (model prog w) _ _ ⟨hp, g, d, t + 1, os⟩ "BaseException.__getattribute__" "BaseException" "__getattribute__" (.ref x) [.str "__class__" t] [] _ (by decide +kernel) (by decide +kernel) sub (PySem.F.args_bexc_ga (.ref x) (.str "__class__" t)) ?_
  unfold Builtin.«object.__getattribute__»
  refine wpAny_bind (wpAny_of_eq (a := ((Value.ref x : Value), [Value.str "__class__" t])) (by first | rfl | (simp only [slotArgs]; rfl)) ?_)
  refine wpAny_bind (wpAny_pure (wpAny_bind (L0.at (wpAny_bind (L3.at ?_)))))
  show wpAny _ _ (holding [Value.builtin "object.__class__"] (call (.builtin "getset_descriptor.__get__") [.builtin "object.__class__", .ref x, .ref D]) >>= ret) _ _ _
  refine wpAny_bind (wpAny_holding (wpAny_call (class_get (s := ⟨hp, g, d, t + 1, os⟩) (ox := ox) (od := od) X I hm ?_)))
  refine wpAny_pure ?_
  show wpAny _ _ (handedOut (.ref D)) _ _ _
  rw [handedOut_of (v := .ref D) rfl]
  first
    | exact wpAny_pure (wpAny_pure h)
    | exact wpAny_pure h
    | exact wpAny_pure (wpAny_bind (wpAny_pure (wpAny_pure h)))
theorem kitx_excX (hga : findIn K (.ref D) "__getattribute__" = some (some (.builtin "BaseException.__getattribute__"))) (hgt : findIn K (.ref D) "__getattr__" = some none) (hsub : subIn K (.ref D) (.type "BaseException") = some true) (hdct : hasDictIn K D = true) (ha : findIn K (.ref D) "__class__" = some (some (.builtin "object.__class__")))
    (hn : specialIn K (.builtin "object.__class__") "__get__" = some (some (.builtin "getset_descriptor.__get__"))) (htk : takesIn K (.builtin "object.__class__") = some true) (hm : mroIn K D (.type "object") = some true) :
    KitX K (.ref x) (.ref D) (fun h => InstAt h x ox D od) where
  ty := fun _ _ _ I => I.type
  it := fun _ _ X _ => by
    obtain ⟨cdD, hcD, _⟩ := any_some hdct
    unfold clsIn at hcD
    split at hcD
    · rename_i c' d' cd' sl' ho
      intro A' Q' E' s' k q
      unfold isType loadHead
      exact wpAny_bind (wpAny_loadPart (k _ _ (X _ _ ho)) (wpAny_pure q))
    · cases hcD
  ne := fun h tp dd its n sl X htp => by
    obtain ⟨cdD, hcD, _⟩ := any_some hdct
    refine Bool.eq_false_iff.mpr fun q => ?_
    have e : D = tp := Value.ref.inj (beq_iff_eq.mp q)
    subst e
    unfold clsIn at hcD
    split at hcD
    · rename_i c' d' cd' sl' ho
      have z := (X _ _ ho).symm.trans htp
      cases z
    · cases hcD
  ca := fun X I k => kin_classX hga hgt hsub hdct ha hn htk hm X I k
end
end PySem.W
namespace Rx
open PySem PySem.Spec PyProof.Rows L2 Rd
theorem call_isX {X : Cx} {a : Addr} {oe : Obj} {cls : Value} {d : Option Addr} {pn : List (Addr × Obj)} (hz : Zc cls d oe) (hf : ∃ vs, oe.data = .fields vs) : CallR (X.suite a ((a, oe) :: pn)) (.builtin "isinstance") (rIsX X.K a cls d) := by
  intro pins s σ H xs us Q I r h
  obtain ⟨D, dd, fs, c, cv, b, rfl, rfl, C, hd, rfl, hcv, e, q⟩ := h
  obtain ⟨u1, u2, rfl, r1, r2⟩ := vals2 r
  cases (show u1 = Value.ref a from r1)
  have ec := hcv.eq r2
  subst ec
  obtain ⟨hget, _⟩ := I.pin (a, oe) (List.mem_append.mpr (.inl List.mem_cons_self))
  obtain ⟨vs, hv⟩ := hf
  have hx : ObjOk X.prog X.w H s.heap dd (.xd fs) := I.hok dd _ hd
  obtain ⟨mA, hns, hr⟩ := hx
  obtain ⟨od, ho, hl⟩ := lookIn_ns hns
  have J : PySem.W.InstAt s.heap a oe D (some od) := ⟨hget, hz.1, by unfold PySem.W.notCls; rw [hv] <;> rfl, by rw [hz.2]; exact ho⟩
  exact PySem.W.kia_one (PySem.W.kitx_excX C.hg C.hk C.hs C.hd C.ha C.hn C.ht C.hm) I.kIn J e (fun z => nomatch z) fun tk => ⟨.bl b, H, I.kept (t' := tk) fun _ _ z => z, rfl, q⟩
theorem isX {K : PySem.W.Frag} {a fI C E dd : Addr} {b : Bool} {fs : List (Str × V)} {H : Hp} {Q : VK} (FC : ExcF K fI C) (FE : ExcF K fI E) (h : PySem.W.subIn K (.ref C) (.ref E) = some b) (hd : H dd = some (.xd fs)) (q : Q (.bl b) H) : rIsX K a (.ref C) (some dd) [.ref a, .ref E] H Q :=
  ⟨C, dd, fs, _, _, b, rfl, rfl, FC.is, hd, rfl, .own E, kit FC FE h, q⟩
/-- e.value -/
def XvG (K : PySem.W.Frag) (a : Addr) (cls : Value) (d : Option Addr) (n : Str) : V → Hp → VK → Prop := fun x H1 Q => x = .ref a ∧ ∃ (C dd : Addr) (fs : List (Str × V)) (v : V), cls = .ref C ∧ d = some dd ∧ ExcC K C ∧ PySem.W.findIn K (.ref C) n = some none ∧ H1 dd = some (.xd fs) ∧ fs.lookup n = some v ∧ Q v H1
def tXv (K : PySem.W.Frag) (a : Addr) (cls : Value) (d : Option Addr) (n : Str) (te : TE) : TE := fun σ H Q => te σ H fun x H1 => XvG K a cls d n x H1 Q
theorem pe_xv {X : Cx} {a : Addr} {oe : Obj} {cls : Value} {d : Option Addr} {pn : List (Addr × Obj)} {e : Expr} {te : TE} {pos : Pos} {n : Str} (hz : Zc cls d oe) (hf : ∃ vs, oe.data = .fields vs) (he : PE (X.suite a ((a, oe) :: pn)) e te)
    (hb : attributeBase e n X.env (eval e X.env) = eval e X.env := by rfl) : PE (X.suite a ((a, oe) :: pn)) (.Attribute e n pos) (tXv X.K a cls d n te) := by
  refine ⟨fun pins s σ H Q I h => ?_⟩
  refine attr_of hb (thn (he.run pins s σ H _ I h) fun u s1 hh => ?_)
  obtain ⟨x, H1, I1, rx, ex, C, dd, fs, v, ec, ed, T, hno, ea, l, q⟩ := hh
  subst ex
  obtain rfl : u = Value.ref a := rx
  subst ec
  subst ed
  obtain ⟨ha, _⟩ := I1.pin (a, oe) (List.mem_append_left _ List.mem_cons_self)
  obtain ⟨vs, hd⟩ := hf
  have hx : ObjOk X.prog X.w H1 s1.heap dd (.xd fs) := I1.hok dd _ ea
  obtain ⟨mA, hns, hr⟩ := hx
  obtain ⟨od, ho, hl⟩ := lookIn_ns hns
  obtain ⟨u, hu, ru⟩ := RelO.some_of (v := v) (o := mA n) (by rw [← l]; exact hr n)
  have J : PySem.W.InstAt s1.heap a oe C (some od) := ⟨ha, hz.1, by unfold PySem.W.notCls; rw [hd] <;> rfl, by rw [hz.2]; exact ho⟩
  exact HandSPX.exc_get I1.kIn J T.hg T.hk T.hs (PySem.W.findObj_own T.hd hno rfl (by rw [hl, hu])) (handed_of ru) ⟨v, H1, I1.tok _, ru, q⟩
theorem xvH {K : PySem.W.Frag} {a : Addr} {cls : Value} {d : Option Addr} {n : Str} {te : TE} {σ : L2.St} {H : Hp} {Q : VK} (h : te σ H fun x H1 => XvG K a cls d n x H1 Q) : tXv K a cls d n te σ H Q := h
theorem xv {K : PySem.W.Frag} {a fI C dd : Addr} {v : V} {H : Hp} {Q : VK} (F : ExcF K fI C) (hd : H dd = some (.xd [("value", v)])) (q : Q v H) : XvG K a (.ref C) (some dd) "value" (.ref a) H Q :=
  ⟨rfl, C, dd, _, v, rfl, rfl, F.is, F.nv, hd, by simp [List.lookup], q⟩
/-- the clause names the class that it is -/
theorem caught {K : PySem.W.Frag} {fI C E : Addr} {i : Nat} {ts : Addr → Value → Option Addr → TS} {Wout : WX} {D : Ends} {d : Option Addr} {σ : L2.St} {H : Hp} (FE : ExcF K fI E) (h : PySem.W.subIn K (.ref C) (.ref E) = some true)
    (q : ∀ a, H a = none → ts a (.ref C) d { nx := fun σ' H' => D.nx (σ'.set i none) H', rt := D.rt, bk := fun σ' H' => D.bk (σ'.set i none) H', ct := fun σ' H' => D.ct (σ'.set i none) H' } (σ.set i (some (.ref a))) H) : wAs K (.ref E) i ts Wout D (.ref C) d σ H :=
  ⟨true, exm FE h, fun _ a na => q a na, fun z => nomatch z⟩
theorem callS {sp : Sp} {E : L2.St → XK} {t : TA} {σ : L2.St} {H : Hp} {Q : VK} (h : t σ H fun vs H1 => sp vs H1 Q (E σ)) : tCallS sp E t σ H Q := h
end Rx
namespace Rx
open PySem PySem.Spec PyProof.Rows L2 Rd
/-- an __init__(self, value=None) called with both -/
theorem binds2 {K : PySem.W.Frag} {x qual : Str} {params : Arguments} {body : List Stmt} {scope : Scope} {f : Addr} {fd : FuncData} (F : FunD K x qual params body scope [.non] [] f fd)
    (h : ∀ (T : Addr) (kV doc pm : Value) (an : Option Addr) (cdv ct : Value) (us its : List Value), us.length = 2 → its.length = 1 →
      ∃ k, bindArgs (PySem.W.fnOf x qual params body scope (.ref T) kV doc pm an cdv ct) ⟨us, []⟩ = seqItems? (.ref T) >>= k ∧ k (some its.toArray) = pure ((["self", "value"] : List Str).zip (us ++ its.drop 1))) : Binds K fd ["self", "value"] [] := by
  obtain ⟨ds, r, b⟩ := F.binds1 (ps := ["self", "value"]) 2 1 (by simp) rfl h
  cases r
  exact b
end Rx
namespace Rx
open PySem PySem.Spec PyProof.Rows L2 Rd
theorem u66 {k : Nat} {A : Around} (h : Room k A) : A.units + 66 < cLine := by have := h.un; omega
/-! ### text * int -/
def nRepS : R2 := fun x y H Q => ∃ (z : Str) (n : Int), x = .str z ∧ y = .int n ∧ MulOk z n ∧ Q (.str (Txt.mul z n)) H
theorem o_repS {X : Cx} : OpR X (binaryOp .Mult) nRepS := by
  intro pins s σ H x y v u Q I rx ry h
  obtain ⟨z, n, rfl, rfl, hok, q⟩ := h
  obtain ⟨t, rfl⟩ := rx
  obtain ⟨t', rfl⟩ := ry
  exact SB.mul hok fun t' k => ⟨.str (Txt.mul z n), H, I.tok _, ⟨_, rfl⟩, q⟩
theorem repS {z : Str} {n : Int} {H : Hp} {Q : VK} (hok : MulOk z n) (q : Q (.str (Txt.mul z n)) H) : nRepS (.str z) (.int n) H Q := ⟨z, n, rfl, rfl, hok, q⟩
/-! ### things with their items -/
/-- what stands at a value, and at its items -/
def Rowed (H : Hp) (x : V) (k : Kd) (ks : List Kd) : Prop := Is H x k ∧ ∀ xs, k = .lst xs ∨ k = .tup xs → Paired (Is H) xs ks
theorem paired_same {H H' : Hp} (s : Same H H') {xs : List V} {ks : List Kd} (h : Paired (Is H) xs ks) : Paired (Is H') xs ks := by
  induction h with
  | nil => exact .nil
  | cons a _ ih => exact .cons (a.same s) ih
theorem Rowed.same {H H' : Hp} {x : V} {k : Kd} {ks : List Kd} (s : Same H H') (h : Rowed H x k ks) : Rowed H' x k ks := ⟨h.1.same s, fun xs e => paired_same s (h.2 xs e)⟩
/-- an address that is not t's -/
def Off (t : Addr) (x : V) : Prop := x ≠ .ref t
theorem off_ref {t a : Addr} (h : a ≠ t) : Off t (.ref a) := fun e => h (V.ref.inj e)
theorem Is.but {t : Addr} {H H' : Hp} {x : V} {k : Kd} (b : Rd.But t H H') (o : Off t x) (h : Is H x k) : Is H' x k := by
  cases h with
  | non => exact .non
  | bl b => exact .bl b
  | int i => exact .int i
  | str l => exact .str l
  | lst h l => exact .lst (b _ _ (fun e => o (by rw [e])) h) l
  | tup h l => exact .tup (b _ _ (fun e => o (by rw [e])) h) l
  | dct h => exact .dct (b _ _ (fun e => o (by rw [e])) h)
theorem paired_but {t : Addr} {H H' : Hp} (b : Rd.But t H H') {xs : List V} {ks : List Kd} (h : Paired (Is H) xs ks) : (∀ y ∈ xs, Off t y) → Paired (Is H') xs ks := by
  induction h with
  | nil => exact fun _ => .nil
  | cons a _ ih => exact fun o => .cons (a.but b (o _ (List.mem_cons_self ..))) (ih fun y m => o y (List.mem_cons_of_mem _ m))
/-- a thing of some kind, its items too; none of them is the object at t (the tape) -/
def Thing (t : Addr) (H : Hp) (x : V) : Prop := ∃ k ks, Rowed H x k ks ∧ Off t x ∧ ∀ xs, k = .lst xs ∨ k = .tup xs → ∀ y ∈ xs, Off t y
theorem Thing.same {t : Addr} {H H' : Hp} {x : V} (s : Same H H') (h : Thing t H x) : Thing t H' x := let ⟨k, ks, r, o⟩ := h; ⟨k, ks, r.same s, o⟩
theorem Thing.but {t : Addr} {H H' : Hp} {x : V} (b : Rd.But t H H') (h : Thing t H x) : Thing t H' x := let ⟨k, ks, r, o, p⟩ := h; ⟨k, ks, ⟨r.1.but b o, fun xs e => paired_but b (r.2 xs e) (p xs e)⟩, o, p⟩
theorem flat {t : Addr} {H : Hp} {x : V} {k : Kd} (h : Is H x k) (n : k.isSeq = false) (o : Off t x := by intro e; cases e) : Thing t H x := ⟨k, [], ⟨h, fun xs e => by rcases e with rfl | rfl <;> cases n⟩, o, fun xs e => by rcases e with rfl | rfl <;> cases n⟩
/-- an item -/
def Item (t : Addr) (H : Hp) (x : V) : Prop := (∃ k, Is H x k) ∧ Off t x
theorem item {t : Addr} {H : Hp} {x : V} {k : Kd} (h : Is H x k) (o : Off t x := by intro e; cases e) : Item t H x := ⟨⟨k, h⟩, o⟩
theorem Item.same {t : Addr} {H H' : Hp} {x : V} (s : Same H H') (h : Item t H x) : Item t H' x := let ⟨⟨k, i⟩, o⟩ := h; ⟨⟨k, i.same s⟩, o⟩
theorem Item.but {t : Addr} {H H' : Hp} {x : V} (b : Rd.But t H H') (h : Item t H x) : Item t H' x := let ⟨⟨k, i⟩, o⟩ := h; ⟨⟨k, i.but b o⟩, o⟩
theorem kinds {t : Addr} {H : Hp} : ∀ {xs : List V}, (∀ x ∈ xs, Item t H x) → ∃ ks, Paired (Is H) xs ks
  | [], _ => ⟨[], .nil⟩
  | x :: xs, h => let ⟨⟨k, i⟩, _⟩ := h x (List.mem_cons_self ..); let ⟨ks, r⟩ := kinds fun y m => h y (List.mem_cons_of_mem _ m); ⟨k :: ks, .cons i r⟩
theorem seqL {t : Addr} {H : Hp} {a : Addr} {xs : List V} (h : H a = some (.lst xs)) (o : a ≠ t) (l : xs.length ≤ 1000000) (i : ∀ x ∈ xs, Item t H x) : Thing t H (.ref a) :=
  let ⟨ks, r⟩ := kinds i; ⟨_, ks, ⟨.lst h l, fun ys e => by rcases e with e | e <;> cases e; exact r⟩, off_ref o, fun ys e => by rcases e with e | e <;> cases e; exact fun y m => (i y m).2⟩
theorem seqT {t : Addr} {H : Hp} {a : Addr} {xs : List V} (h : H a = some (.tup xs)) (o : a ≠ t) (l : xs.length ≤ 1000000) (i : ∀ x ∈ xs, Item t H x) : Thing t H (.ref a) :=
  let ⟨ks, r⟩ := kinds i; ⟨_, ks, ⟨.tup h l, fun ys e => by rcases e with e | e <;> cases e; exact r⟩, off_ref o, fun ys e => by rcases e with e | e <;> cases e; exact fun y m => (i y m).2⟩
theorem all_nil {P : V → Prop} : ∀ x ∈ ([] : List V), P x := fun _ h => nomatch h
theorem all_cons {P : V → Prop} {x : V} {xs : List V} (h : P x) (t : ∀ y ∈ xs, P y) : ∀ y ∈ x :: xs, P y := fun y m => by
  rcases List.mem_cons.mp m with rfl | m
  · exact h
  · exact t y m
theorem paired_get {R : V → Kd → Prop} {xs : List V} {ks : List Kd} (h : Paired R xs ks) : ∀ {i : Nat} {x : V}, xs[i]? = some x → ∃ k, ks[i]? = some k ∧ R x k := by
  induction h with
  | nil => intro i x e; simp at e
  | cons a _ ih =>
    intro i x e
    cases i with
    | zero => cases e; exact ⟨_, rfl, a⟩
    | succ i => exact ih e
/-! ### range(i, j, c) upwards -/
/-- how many -/
def cnt (i j c : Int) : Nat := if i < j then ((j - i - 1) / c + 1).toNat else 0
theorem rg_pos {i j c : Int} (c0 : 0 < c) (c1 : c < 1073741824) (hi : 0 ≤ i) (hi' : i < 2 ^ 62) (hj : 0 ≤ j) (hj' : j < 2 ^ 62) : RgC i j c (cnt i j c) := by
  have e : Builtin.Range.rangeSize i j c = (cnt i j c : Nat) := by
    unfold Builtin.Range.rangeSize cnt
    rw [if_pos c0]
    split
    · have : 0 ≤ (j - i - 1) / c := Int.ediv_nonneg (by omega) (by omega)
      omega
    · rfl
  have hb : (cnt i j c : Int) ≤ 2 ^ 62 + 1 := by
    unfold cnt
    split
    · have h1 : 0 ≤ (j - i - 1) / c := Int.ediv_nonneg (by omega) (by omega)
      have h2 : (j - i - 1) / c ≤ j - i - 1 := Int.ediv_le_self _ (by omega)
      omega
    · decide
  refine ⟨by omega, by omega, ?_, e⟩
  unfold Builtin.Range.small
  rw [e]
  simp only [Builtin.Range.rangeFitsLong, Bool.and_eq_true, Bool.or_eq_true, decide_eq_true_eq, beq_iff_eq]
  rw [if_pos c0]
  simp only [Bool.and_eq_true, decide_eq_true_eq]
  omega
theorem cnt_lt {i j c : Int} (c0 : 0 < c) (k : Nat) : k < cnt i j c ↔ i + (k : Int) * c < j := by
  unfold cnt
  split
  · rename_i h
    have h1 : 0 ≤ (j - i - 1) / c := Int.ediv_nonneg (by omega) (by omega)
    have e : k < ((j - i - 1) / c + 1).toNat ↔ (k : Int) ≤ (j - i - 1) / c := by omega
    rw [e, Int.le_ediv_iff_mul_le c0]
    omega
  · have : 0 ≤ (k : Int) * c := Int.mul_nonneg (by omega) (by omega)
    omega
theorem rng3 {ta : TA} {σ : L2.St} {H : Hp} {R : It → Hp → Prop} (h : ta σ H fun vs H1 => ∃ (i j c : Int) (n : Nat), vs = [.int i, .int j, .int c] ∧ RgC i j c n ∧ R (Itc i c n) H1) : iRng3 ta σ H R := h
end Rx
namespace Rx
open PySem PySem.Spec PyProof.Rows L2 Rd
/-! ### {k: v} written out -/
theorem disp {trs : List (TE × TE)} {σ : L2.St} {H : Hp} {Q : VK} (h : ∀ (p : Addr) (G : Hp), H p = none → G p = some (.dK []) → Same H G → tPairs trs σ G fun ps H2 => H2 p = some (.dK []) ∧ ∃ kvs : List (Key × V), ps = kvs.map (fun kv => (kV kv.1, kv.2)) ∧ kvs.length ≤ 15 ∧
    ∀ G2 : Hp, G2 p = some (.dK (mergeK [] kvs)) → (∀ b, b ≠ p → G2 b = H2 b) → Q (.ref p) G2) : tDisp trs σ H Q := fun p hp => by
  have key := h p _ hp upd_same (same_upd hp)
  have mono : ∀ {trs : List (TE × TE)} {σ : L2.St} {H : Hp} {A B : List (V × V) → Hp → Prop}, A = B → tPairs trs σ H A → tPairs trs σ H B := fun e h => e ▸ h
  refine mono ?_ key
  funext ps H2
  refine propext ⟨fun ⟨a, kvs, b, c, d⟩ => ⟨a, kvs, b, c, d _ upd_same fun b hb => upd_ne hb⟩, fun ⟨a, kvs, b, c, d⟩ => ⟨a, kvs, b, c, fun G2 g off => ?_⟩⟩
  have e : G2 = upd H2 p (.dK (mergeK [] kvs)) := by
    funext x
    by_cases q : x = p
    · rw [q, g, upd_same]
    · rw [off x q, upd_ne q]
  rw [e]
  exact d
theorem pair {tk tv : TE} {r : List (TE × TE)} {σ : L2.St} {H : Hp} {Q : List (V × V) → Hp → Prop} (h : tk σ H fun x H1 => tv σ H1 fun y H2 => tPairs r σ H2 fun ps H3 => Q ((x, y) :: ps) H3) : tPairs ((tk, tv) :: r) σ H Q := h
theorem pair0 {σ : L2.St} {H : Hp} {Q : List (V × V) → Hp → Prop} (h : Q [] H) : tPairs [] σ H Q := h
theorem same_off2 {H G G2 : Hp} {p : Addr} (s : Same H G) (np : H p = none) (off : ∀ b, b ≠ p → G2 b = G b) : Same H G2 := fun b o e => by rw [off b (ne_of_none e np)]; exact s b o e
end Rx
namespace Rx
open PySem PySem.Spec PyProof.Rows L2 Rd
theorem eqI_refl {K : PySem.W.Frag} {H : Hp} {y : V} {k : Kd} (h : Is H y k) : EqI K H y y := by
  cases h with
  | non => exact .inl ⟨rfl, rfl⟩
  | bl b => exact .inl ⟨rfl, rfl⟩
  | int i => exact .inl ⟨rfl, rfl⟩
  | str l => exact .inl ⟨rfl, rfl⟩
  | lst h l => exact .inr (.inl ⟨_, rfl, rfl⟩)
  | tup h l => exact .inr (.inl ⟨_, rfl, rfl⟩)
  | dct h => exact .inr (.inl ⟨_, rfl, rfl⟩)
end Rx

/-! {(a, b): v, ..}: a dict written out whose keys are tuples. -/
namespace Ry
open PySem PySem.Spec PyProof.Rows L2 Rd
section
variable {X : Cx} {pins : List (Addr × Obj)} {σ : L2.St} {H : Hp} {s : Shared} {a : Addr} {A : Around} {E : Value → Shared → Prop}
/-- d[y] = v by the dict's own store, y a tuple -/
theorem dset {kvs : List (List Key × V)} {k : List Key} {b : Addr} {v : V} {r : Value} {Q : Unit → Shared → Prop} (hu : A.units + 1 < cLine) (I : Inv X pins σ H s) (e : H a = some (.dT kvs)) (eb : H b = some (.tup (k.map kV))) (l : kvs.length < sizeLine) (rv : L2.RelV v r)
    (h : ∀ s', Inv X pins σ (upd H a (.dT (putK kvs k v))) s' → Q () s') : wpAny (model X.prog X.w) A (dictSet a (.ref b) r) Q E s := by
  obtain ⟨z, hd, xs, rel, dd⟩ := dt_of I.hok e
  have hz : xs.length ≤ sizeLine := by rw [← Paired.length rel]; exact z
  have hl : (putK kvs k v).length ≤ sizeLine := by have := length_putK kvs k v; omega
  refine wpAny_dictSet_heap (hsz := hz) (show A.units < cLine by omega) (key_of I.hok eb) dd fun h' dd' hs => h _ ?_
  obtain ⟨q, es, ep, hq, h2, h3, h4, _, h5⟩ := dd'
  refine d_write I (by rw [e]; exact True.intro) hs ⟨q, hq⟩ ⟨hl, hd, _, (rel.put k eb rv).keeps fun c ys ec => ?_, q, es, ep, hq, h2, h3, h4, h5⟩
  rw [upd_ne (ne_of ec e (fun z => nomatch z))]
  exact ec
/-- what a display puts down, pair by pair -/
def putAll (kvs more : List (List Key × V)) : List (List Key × V) := more.foldl (fun acc kv => putK acc kv.1 kv.2) kvs
theorem putAll_len : ∀ (more kvs : List (List Key × V)), (putAll kvs more).length ≤ kvs.length + more.length
  | [], kvs => by show kvs.length ≤ kvs.length + 0; omega
  | p :: r, kvs => by
    have h1 := putAll_len r (putK kvs p.1 p.2)
    have h2 := length_putK kvs p.1 p.2
    show (putAll (putK kvs p.1 p.2) r).length ≤ _
    rw [List.length_cons]; omega
/-- the pairs (a tuple's address, a value) with the tuples' keys -/
def KeyAt (H : Hp) (p : V × V) (kv : List Key × V) : Prop := ∃ b, p.1 = .ref b ∧ H b = some (.tup (kv.1.map kV)) ∧ p.2 = kv.2
theorem dsets {a : Addr} : ∀ (more : List (List Key × V)) {ps : List (V × V)} {vs : List (Value × Value)} {kvs : List (List Key × V)} {H : Hp} {s : Shared} {Q : PUnit → Shared → Prop}, A.units + 1 < cLine → Inv X pins σ H s → H a = some (.dT kvs) → VV ps vs → Paired (KeyAt H) ps more →
    kvs.length + more.length ≤ 1000 → (∀ s', Inv X pins σ (upd H a (.dT (putAll kvs more))) s' → Q PUnit.unit s') →
    wpAny (model X.prog X.w) A (forIn vs PUnit.unit fun (x : Value × Value) (_ : PUnit) => (do dictSet a x.1 x.2; pure (ForInStep.yield PUnit.unit) : Sem (ForInStep PUnit))) Q E s
  | [], ps, vs, kvs, H, s, Q, hu, I, e, r, p, hl, h => by
    cases p
    cases r
    rw [List.forIn_nil]
    refine wpAny_pure (h s ?_)
    have : upd H a (.dT (putAll kvs [])) = H := by
      funext b
      by_cases c : b = a
      · rw [c, upd_same, e]; rfl
      · rw [upd_ne c]
    rw [this]
    exact I
  | kv :: more, ps, vs, kvs, H, s, Q, hu, I, e, r, p, hl, h => by
    cases p with
    | @cons q _ ps' _ k p' =>
      cases r with
      | @cons _ u _ us ru r' =>
        obtain ⟨b, e1, e2, e3⟩ := k
        obtain ⟨ku, vu⟩ := u
        have ra : L2.RelV (.ref b) ku := by rw [← e1]; exact ru.1
        cases (show ku = Value.ref b from ra)
        have rv : L2.RelV kv.2 vu := by rw [← e3]; exact ru.2
        rw [List.length_cons] at hl
        rw [List.forIn_cons]
        refine wpAny_bind (wpAny_bind (dset hu I e e2 (by rw [sizeLine_eq]; omega) rv fun s1 I1 => wpAny_pure ?_))
        have keep : ∀ {ps : List (V × V)} {more : List (List Key × V)}, Paired (KeyAt H) ps more → Paired (KeyAt (upd H a (.dT (putK kvs kv.1 kv.2)))) ps more := fun x => by
          induction x with
          | nil => exact .nil
          | cons z _ ih =>
            obtain ⟨b, e1, e2, e3⟩ := z
            exact .cons ⟨b, e1, by rw [upd_ne (ne_of e2 e (fun z => nomatch z))]; exact e2, e3⟩ ih
        refine dsets more hu I1 upd_same r' (keep p') (by have := length_putK kvs kv.1 kv.2; omega) fun s2 I2 => h s2 ?_
        rw [upd_upd] at I2
        exact I2
end
/-- {k: v, ..}, the keys tuples of ints and texts; the new dict stands empty while the pairs are made -/
def tDispT (trs : List (TE × TE)) : TE := fun σ H Q => ∀ p, H p = none → tPairs trs σ (upd H p (.dT [])) fun ps H2 => H2 p = some (.dT []) ∧ ∃ kvs : List (List Key × V), Paired (KeyAt H2) ps kvs ∧ kvs.length ≤ 15 ∧ Q (.ref p) (upd H2 p (.dT (putAll [] kvs)))
theorem pe_dispT {X : Cx} {pos : Pos} {keys : List (Option Expr)} {values : List Expr} {trs : List (TE × TE)} (hu : X.A.units + 1 < cLine) (h : PPs X pos keys values trs) (hall : keys.all (·.isSome) = true) (hl : keys.length = values.length) (h0 : keys ≠ [])
    (h15 : keys.length ≤ 15) : PE X (.Dict keys values pos) (tDispT trs) := by
  refine ⟨fun pins s σ H Q I q => ?_⟩
  have hn := I.hok.fresh (Nat.le_refl s.heap.objs.size)
  have I1 := I.laid (a := s.heap.objs.size) (o := .dT []) (h' := s.heap.push { cls := .type "dict", data := .dict #[] }) (t' := s.toks) (fun _ _ q => Heap.get?_push_of_some _ q) (Nat.le_refl _) (dt_empty s.heap I.big)
  have hp := pairTrees_length keys values X.env pos hall hl
  have hne : pairTrees keys values X.env pos ≠ [] := fun c => by
    rw [c] at hp
    exact h0 (List.length_eq_zero_iff.mp hp.symm)
  rw [arm_eval_Dict, zip_pairTrees keys values X.env pos hall hl, dictDisplay_pairs _ hne (by omega)]
  refine wpAny_bind (wpAny_standAt (wpAny_bind ?_))
  unfold subDict
  refine wpAny_bind (wpAny_alloc ?_)
  refine wpAny_bind (wpAny_holding ?_)
  rw [if_pos (by omega)]
  refine wpAny_bind (thn (h.run pins _ σ _ _ I1 (q _ hn)) fun ws s2 ⟨ps, H2, I2, rel, e, kvs, pr, lk, q2⟩ => ?_)
  refine wpAny_holding (wpAny_bind (dsets kvs hu I2 e rel pr (by rw [List.length_nil]; omega) fun s3 I3 => wpAny_pure (wpAny_pure (wpAny_pure ⟨.ref s.heap.objs.size, _, I3, rfl, q2⟩))))
theorem dispT {trs : List (TE × TE)} {σ : L2.St} {H : Hp} {Q : VK} (h : ∀ (p : Addr) (G : Hp), H p = none → G p = some (.dT []) → Same H G → tPairs trs σ G fun ps H2 => H2 p = some (.dT []) ∧ ∃ kvs : List (List Key × V), Paired (KeyAt H2) ps kvs ∧ kvs.length ≤ 15 ∧
    ∀ G2 : Hp, G2 p = some (.dT (putAll [] kvs)) → (∀ b, b ≠ p → G2 b = H2 b) → Q (.ref p) G2) : tDispT trs σ H Q := fun p hp => by
  have key := h p _ hp upd_same (same_upd hp)
  have mono : ∀ {trs : List (TE × TE)} {σ : L2.St} {H : Hp} {A B : List (V × V) → Hp → Prop}, A = B → tPairs trs σ H A → tPairs trs σ H B := fun e h => e ▸ h
  refine mono ?_ key
  funext ps H2
  refine propext ⟨fun ⟨a, kvs, b, c, d⟩ => ⟨a, kvs, b, c, d _ upd_same fun b hb => upd_ne hb⟩, fun ⟨a, kvs, b, c, d⟩ => ⟨a, kvs, b, c, fun G2 g off => ?_⟩⟩
  have e : G2 = upd H2 p (.dT (putAll [] kvs)) := by
    funext x
    by_cases q : x = p
    · rw [q, g, upd_same]
    · rw [off x q, upd_ne q]
  rw [e]
  exact d
/-- what a comprehension within a comprehension walks -/
theorem pi_listK {X : Cx} {K : PySem.W.Frag} {tg l : Expr} {tl : TE} (e : X.K = K) (hl : PE X l tl) : PI X tg l (iList K tl) := e ▸ pi_list hl
theorem pi_tupK {X : Cx} {K : PySem.W.Frag} {tg l : Expr} {tl : TE} (e : X.K = K) (hl : PE X l tl) : PI X tg l (iTup K tl) := e ▸ pi_tup hl
/-- a join within a comprehension -/
def joinR (K : PySem.W.Frag) : V → List V → Hp → VK → Prop := fun x xs H Q => ∃ a p, ∃ ys : List Str, x = .str a ∧ xs = [.ref p] ∧ (SqL K H p (ys.map V.str) ∨ SqT K H p (ys.map V.str)) ∧
      (ys.map (·.length)).sum + ys.length * a.length ≤ 16777216 ∧ Q (.str (Txt.join a ys)) H
theorem pe_joinK {X : Cx} {o e : Expr} {to te : TE} {apos pos : Pos} (ho : PE X o to) (he : PE X e te) (hs : starEach [e] X.env = [(false, eval e X.env)] := by rfl) (hbase : attributeBase o "join" X.env (eval o X.env) = eval o X.env := by rfl) (hline : (apos.endLine == pos.line) = true := by rfl) :
    PE X (.Call (.Attribute o "join" apos) [e] [] pos) (tM1 (joinR X.K) to te) := pe_join ho he hs hbase hline
theorem joinS {K : PySem.W.Frag} {H : Hp} {a : Str} {p : Addr} {ys : List Str} {Q : VK} (hp : SqL K H p (ys.map V.str) ∨ SqT K H p (ys.map V.str)) (hz : (ys.map (·.length)).sum + ys.length * a.length ≤ 16777216) (h : Q (.str (Txt.join a ys)) H) : joinR K (.str a) [.ref p] H Q := ⟨a, p, ys, rfl, rfl, hp, hz, h⟩
/-- dict(xs) of a list of pairs -/
def rDictP (K : PySem.W.Frag) : List V → Hp → VK → Prop := fun xs H Q => ∃ (a : Addr) (ps : List Addr) (kvs : List (Key × V)), xs = [.ref a] ∧ SqL K H a (ps.map V.ref) ∧ Paired (fun p kv => SqT K H p [kV kv.1, kv.2]) ps kvs ∧ ∀ p, H p = none → Q (.ref p) (upd H p (.dK (mergeK [] kvs)))
theorem c_dictP {X : Cx} (h : X.calm = true) : CallR X (.type "dict") (rDictP X.K) := call_dictP h
theorem dictP {K : PySem.W.Frag} {H : Hp} {a : Addr} {ps : List Addr} {kvs : List (Key × V)} {Q : VK} (h : SqL K H a (ps.map V.ref)) (hp : Paired (fun p kv => SqT K H p [kV kv.1, kv.2]) ps kvs) (q : ∀ (p : Addr) (G : Hp), H p = none → G p = some (.dK (mergeK [] kvs)) → Same H G → Q (.ref p) G) : rDictP K [.ref a] H Q :=
  ⟨a, ps, kvs, rfl, h, hp, fun p hp => q p _ hp upd_same (same_upd hp)⟩
end Ry

/-! Defs of which it is known that no repr is under way; repr of data. -/
namespace Rg
open PySem PySem.Spec PyProof.Rows L2
/-- the promise of a def, for the frames that stand in no repr -/
structure FnG (P : Program) (w : World) (K : PySem.W.Frag) (mg : Str → Option Value) (base : Heap) (CX : CXT) (k : Nat) (f : Addr) (fd : FuncData) (ps : List Str) (sp : Sp) : Prop where
  len : ∀ vs H Q E, sp vs H Q E → vs.length = ps.length
  run : ∀ (A : Around) (st : List Env) (s : Shared) (H : Hp) (ag : Args) (us : List Value) (vs : List V) (Q : VK) (E : XK), A.guards = some [] → Room k A → Env0 P w K mg base A st s H → BindsTo s fd ag (ps.zip us) → Vals vs us → sp vs H Q E →
    codeAny (model P w) A (.call (.ref f) ag) (CR CX st P w H s Q E) s
section
variable {P : Program} {w : World} {K : PySem.W.Frag} {mg : Str → Option Value} {base : Heap} {CX : CXT}
theorem FnG.mono {j k : Nat} {f : Addr} {fd : FuncData} {ps : List Str} {sp : Sp} (F : FnG P w K mg base CX j f fd ps sp) (h : j ≤ k) : FnG P w K mg base CX k f fd ps sp := ⟨F.len, fun A st s H ag us vs Q E g hr => F.run A st s H ag us vs Q E g (hr.mono h)⟩
theorem fnG_of {k : Nat} {f : Addr} {nm qual : Str} {pa : Arguments} {body : List Stmt} {sc : Scope} {dV kV doc pm cdv ct oc : Value} {an od : Option Addr} {osl : Array (Option Value)} {N ps : List Str} {sp : Sp}
    (lk : K.lookup f = some ⟨oc, od, .func (PySem.W.fnOf nm qual pa body sc dV kV doc pm an cdv ct), osl⟩) (hcd : PySem.W.codeIn K cdv qual = true) (S : FnScope N ps sc) (len : ∀ vs H Q E, sp vs H Q E → vs.length = ps.length)
    (hb : ∀ (A : Around) (st : List Env) (s : Shared) (H : Hp) (vs : List V) (Q : VK) (E : XK), A.guards = some [] → Room k (A.deeper (envOfC qual sc s.heap.objs.size f cdv)) → sp vs H Q E → ∃ t, PSs (cxOf CX P w K mg base N qual sc f cdv A st s H E) body t ∧ t { nx := fun _ H' => Q .non H', rt := Q } (start N vs) H) :
    FnG P w K mg base CX (k + 1) f (PySem.W.fnOf nm qual pa body sc dV kV doc pm an cdv ct) ps sp := by
  refine ⟨len, fun A st s H ag us vs Q E g hr e0 hbd r hsp => ?_⟩
  have KX : K.In s.heap := e0.mod.kin.keeps fun x o e => (e0.bs x o e).1
  have kinds : ∀ y ∈ ps.zip us, sc.names.lookup y.1 = some .local ∨ (sc.names.lookup y.1 = some .cell ∧ ((cellsFrom (s.heap.objs.size + 1) sc.names []).lookup y.1).isSome = true) := fun y hy =>
    (S.par y.1 (List.of_mem_zip hy).1).imp id fun q => ⟨q, PySem.W.cellsFrom_some _ _ _ (.inl q)⟩
  refine codeAny_call_function hr.depth (KX _ _ lk) rfl S.co S.gen rfl (PySem.W.codeRec_of KX hcd) (hbd _ _ _ _ (wpAny_newFunctionEnv_cells S.kind kinds fun env he s1 x => ?_))
  subst he
  refine ⟨(e0.mod.nolimit.keeps fun y o e => (e0.bs y o e).1).keeps x.toInCall.keep, codeAny_func ?_⟩
  obtain ⟨t, ht, hq⟩ := hb A st s H vs Q E g (hr.deeper _) hsp
  refine wpAny_mono (ht.run [] s1 (start N vs) H _ (inv_start S hr.hd e0 (len _ _ _ _ hsp) r x) hq) (fun fl s' hs => ?_) fun _ _ z => z
  cases fl with
  | ret u => exact let ⟨v, _, H', J, rv, q⟩ := hs; ⟨v, H', J.os, J.bare, J.base, J.hok, rv, q⟩
  | next => exact let ⟨_, H', J, q⟩ := hs; ⟨V.non, H', J.os, J.bare, J.base, J.hok, rfl, q⟩
  | brk => exact let ⟨_, _, _, q⟩ := hs; q.elim
  | cont => exact let ⟨_, _, _, q⟩ := hs; q.elim
end
section
variable {P : Program} {w : World} {K : PySem.W.Frag} {mg : Str → Option Value} {base : Heap}
/-- a def by its body, no repr under way -/
theorem okG {x qual : Str} {st : Stmt} {f : Addr} {fd : FuncData} {N ps : List Str} {k : Nat} {sp : Sp} (F : Fun K x qual st f fd) (S : FnScope N ps (defScope st)) (len : ∀ vs H Q E, sp vs H Q E → vs.length = ps.length)
    (hb : ∀ (cdv : Value) (A : Around) (out : List Env) (s : Shared) (H : Hp) (vs : List V) (Q : VK) (E : XK), A.guards = some [] → Room k (A.deeper (envOfC qual (defScope st) s.heap.objs.size f cdv)) → sp vs H Q E →
      ∃ t, PSs (cxOf CX0 P w K mg base N qual (defScope st) f cdv A out s H E).nox (defBody st) t ∧ t { nx := fun _ H' => Q .non H', rt := Q } (start N vs) H) : FnG P w K mg base CX0 (k + 1) f fd ps sp := by
  obtain ⟨_, _, _, _, _, _, cdv, _, _, rfl, lk, hcd⟩ := F.ex
  exact fnG_of lk hcd S len fun A out s H vs Q E g hr h => let ⟨t, p, q⟩ := hb cdv A out s H vs Q E g hr h; ⟨t, p.nox, q⟩
end
section
variable {X : Cx} {CX : CXT} {k : Nat} {f : Addr} {fd : FuncData} {ps : List Str} {sp : Sp} {E : XK} {x : Str} {p pos : Pos} {e : Expr} {es : List Expr} {t : TA}
/-- such a def called by its name -/
theorem pe_callG (g : X.A.guards = some []) (F : FnG X.prog X.w X.K X.mg X.base CX k f fd ps sp) (hr : Room k X.A) (hg : Gl X x) (hm : X.mg x = some (.ref f)) (hk : PySem.W.keepIn X.K (.ref f) = true) (hb : Binds X.K fd ps []) (hx : Passes CX X E) (ha : PA X (e :: es) t)
    (hdb : (x == ("__debug__" : Str)) = false := by decide) (he : starEach (e :: es) X.env = (false, eval e X.env) :: starEach es X.env := by rfl) (hpl : (backTo pos (starEach es X.env)).any (·.1) = false := by rfl) :
    PE X (.Call (.Name x p) (e :: es) [] pos) (tCall sp [] E t) := ⟨fun pins s σ H Q I h => by
  refine wpAny_Call_Name_kw (ld_glob I hg hm (PySem.W.callWith_K (h₀ := X.base) I.ok.mod.kin hk (thn (ha.run pos pins s σ H _ I h) fun us s1 hq => ?_) he hpl) hdb)
  obtain ⟨vs, H1, I1, r, q⟩ := hq
  rw [List.append_nil] at q
  have hl : (us ++ []).length = ps.length := by rw [List.append_nil, ← r.length]; exact F.len _ _ _ _ q
  have b := hb s1 us I1.kIn hl
  rw [List.append_nil] at b
  refine ⟨I1.kIn, wpAny_call (codeAny_mono (F.run X.A X.stack s1 H1 ⟨us, []⟩ us vs Q E g hr I1.env0 b r q) fun res s' z => ?_)⟩
  match res, z with
  | .error v, z => exact hx pins σ H1 s1 v s' I1 z
  | .ok (.ret u), z => exact I1.after z
  | .ok .next, z => exact z.elim
  | .ok .brk, z => exact z.elim
  | .ok .cont, z => exact z.elim⟩
end
/-! ### repr -/
def rRepr (K : PySem.W.Frag) : List V → Hp → VK → Prop := fun vs H Q => ∃ (a : Addr) (d : PyData), vs = [.ref a] ∧ Dp K H (.ref a) d ∧ d.showable = true ∧ d.hasDict = false ∧ d.depth ≤ 100 ∧ d.shown.length ≤ sizeLine ∧ Q (.str d.shown) H
theorem cr_repr {X : Cx} (g : X.A.guards = some []) (hu : X.A.units + 101 < cLine) : CallR X (.builtin "repr") (rRepr X.K) := by
  intro pins s σ H vs us Q I r h
  obtain ⟨a, d, rfl, dp, sh, nd, dd, hz, q⟩ := h
  rw [Vals.ref1 r]
  obtain ⟨as, rd⟩ := Dp.reads I d (.ref a) (.ref a) dp rfl
  refine repr_of_reads' rd sh (PyData.noDict_hsm nd) g (by omega) (fun _ _ z => z) (fun h' u tk kp => ?_) hz
  exact ⟨.str d.shown, H, I.kept (t' := tk) kp, ⟨_, rfl⟩, q⟩
/-! ### the law's own def -/
/-- the abstract heap behind the top: the script alone, unless it is one of the module's own objects -/
def scriptH (K : PySem.W.Frag) (a : Addr) (vs : List Value) (ns : List Int) : Hp := fun b => if b = a ∧ K.lookup a = none then some (.frz { cls := .type "list", data := .seq vs.toArray } (.lst (ns.map V.int))) else none
theorem scriptH_some {K : PySem.W.Frag} {a b : Addr} {vs : List Value} {ns : List Int} {u : HO} (h : scriptH K a vs ns b = some u) : b = a ∧ K.lookup a = none ∧ u = .frz { cls := .type "list", data := .seq vs.toArray } (.lst (ns.map V.int)) := by
  unfold scriptH at h
  by_cases c : b = a ∧ K.lookup a = none
  · rw [if_pos c] at h
    exact ⟨c.1, c.2, (Option.some.inj h).symm⟩
  · rw [if_neg c] at h
    cases h
theorem walk_ofG {l : PySem.W.OpenLaw} {n k : Nat} {q : Program} {loose : List Str} {XP : (Str → Option Value) → Heap → Prop} {YP : World → Heap → Prop} {d : DefRec} {K : Params → PySem.W.Frag} {CX : World → CXT} {sp : World → Sp} {x : Str}
    (hn : l.most = some n) (hn2 : n ≤ sizeLine) (hdf : d.params.defaults = []) (hr : Room k callerA) (hY : ∀ (w : World) (h : Heap), YP w h → (K w.params).In h)
    (F : ∀ (w : World) (mg : Str → Option Value) (fa : Addr) (h : Heap), (K w.params).In h → h.Ns mainGlobals mg → mg d.name = some (.ref fa) →
      ∃ fd : FuncData, (∀ (s : Shared) (u : Value), BindsTo s fd ⟨[u], []⟩ [(x, u)]) ∧ ∀ base : Heap, (K w.params).In base → base.Ns mainGlobals mg → FnG l.prog w (K w.params) mg base (CX w) k fa fd [x] (sp w))
    (hsp : ∀ (w : World) (H : Hp) (a : Addr) (ns : List Int), ns.length ≤ n → SqL (K w.params) H a (ns.map V.int) → sp w [.ref a] H (fun v _ => v = .bl true) fun _ _ _ => False)
    (hCX : ∀ (w : World) (H : Hp) (s : Shared) (e : Value) (s' : Shared), CX w [] H s (fun _ _ _ => False) e s' → False) :
    PySem.W.WalkO q loose XP YP l.row.toRowW d [] (fun f vs => PySem.call f vs) := by
  refine Att.attach_call hn hdf fun w s₀ s1 mg mb fa o pm cd doc a vs ns G Y _ _ _ hmg hobj hints hlen hgen => ?_
  have KX := hY w _ Y
  obtain ⟨fd, hbind, hF⟩ := F w mg fa _ KX G.T.g hmg
  have len : vs.length = ns.length := hints.length
  have rv := vals_ints hints
  let H := scriptH (K w.params) a vs ns
  have hS : SqL (K w.params) H a (ns.map V.int) := by
    cases hk : (K w.params).lookup a with
    | none => exact .inl (.inr ⟨_, if_pos ⟨rfl, hk⟩⟩)
    | some ob =>
      have e := KX a ob hk
      rw [hobj] at e
      cases e
      exact .inr ⟨_, vs.toArray, _, hk, rfl, rfl, rfl, by rw [List.size_toArray, len]; omega, by simpa using rv⟩
  have hok : HOk l.prog w H s1.heap := fun b u z => by
    obtain ⟨rfl, _, rfl⟩ := scriptH_some z
    exact ⟨hobj, by rw [List.length_map]; omega, vs, _, rv, hobj⟩
  have keepK : ∀ {b : Addr} {ob : Obj}, s1.heap.get? b = some ob → H b = none → (hidT s1.heap H).get? b = some ob := fun e z => hidT_get e z
  have noDict : ∀ {b : Addr} {ob : Obj} {es : Array DictEntry} {ep : Nat}, s1.heap.get? b = some ob → ob.data = .dict es ep → H b = none := fun {b ob es ep} e z => by
    cases c : H b with
    | none => rfl
    | some u =>
      obtain ⟨rfl, _, _⟩ := scriptH_some c
      rw [hobj] at e
      cases e
      exact absurd z (fun y => Data.noConfusion y)
  have hns : ∀ {b : Addr} {m : Str → Option Value}, s1.heap.Ns b m → (hidT s1.heap H).Ns b m := fun {b m} ⟨ob, es, ep, e, z, r⟩ => ⟨ob, es, ep, keepK e (noDict e z), z, r⟩
  have hKb : (K w.params).In (hidT s1.heap H) := fun b ob e => keepK (KX b ob e) (by
    cases c : H b with
    | none => rfl
    | some u =>
      obtain ⟨rfl, z, _⟩ := scriptH_some c
      rw [z] at e
      cases e)
  have hM : Mod (K w.params) mg (hidT s1.heap H) := ⟨hKb, hns G.T.g, ⟨mb, hns G.T.b, G.T.builtins⟩, let ⟨mc, h1, h2⟩ := G.T.nolimit; ⟨mc, hns h1, h2⟩⟩
  have e0 : Env0 l.prog w (K w.params) mg (hidT s1.heap H) callerA [] s1 H := ⟨rfl, hM, fun b ob e => of_hidT e, Nat.le_of_eq (hidT_size _ _), trivial, fun b z => absurd z List.not_mem_nil, hok, .of_eq hgen⟩
  refine codeAny_mono ((hF _ hKb (hns G.T.g)).run callerA [] s1 H ⟨[.ref a], []⟩ [.ref a] [.ref a] _ _ rfl hr e0 (hbind s1 (.ref a)) (.cons rfl .nil) (hsp w H a ns hlen hS)) fun r s' z => ?_
  match r, z with
  | .error v, z => exact (hCX w H s1 v s' z).elim
  | .ok .next, z => exact z.elim
  | .ok .brk, z => exact z.elim
  | .ok .cont, z => exact z.elim
  | .ok (.ret u), z =>
    obtain ⟨v, H', os, bare, un, hok', rel, rfl⟩ := z
    obtain rfl : u = Value.bool true := rel
    refine ⟨rfl, OldK.of_keep fun b ob e => ?_, os, bare⟩
    cases c : H b with
    | none => exact un.keep b ob e c (fun y => absurd y List.not_mem_nil) (fun y => absurd y List.not_mem_nil)
    | some u =>
      obtain ⟨rfl, _, rfl⟩ := scriptH_some c
      obtain ⟨e2, _⟩ := hok' _ _ (un.frzs _ _ _ c)
      rw [hobj] at e
      cases e
      exact e2
end Rg
namespace Rg
theorem u101 {k : Nat} {A : PySem.Around} (h : L2.Room k A) : A.units + 101 < PySem.cLine := by have := h.un; omega
end Rg

/-! t[::-1] and t[:0:-1] of tuples -/
namespace Rz
open PySem PySem.Spec PyProof.Rows
section
variable {prog : Program} {w : World} {A : Around} {E : Value → Shared → Prop} {s : Shared}
/-- how many items t[:hi:-1] leaves out at the begin -/
def offs : Option Int → Nat
  | none => 0
  | some _ => 1
theorem adjust_rev {hi : Option Int} (h : hi = none ∨ hi = some 0) (n : Nat) : Builtin.Slice.sliceAdjust none hi (-1) (n : Int) = ((n : Int) - 1, if hi = none then -1 else min 0 ((n : Int) - 1)) := by
  have h1 : ((-1 : Int) < 0) := by omega
  unfold Builtin.Slice.sliceAdjust
  simp only [h1, if_true]
  rcases h with rfl | rfl <;> rfl
theorem places_rev {hi : Option Int} (h : hi = none ∨ hi = some 0) (n : Nat) : Builtin.Slice.slicePlaces ((n : Int) - 1) (if hi = none then -1 else min 0 ((n : Int) - 1)) (-1) = n - offs hi := by
  unfold Builtin.Slice.slicePlaces
  have h1 : ¬ ((-1 : Int) > 0) := by omega
  simp only [h1, if_false]
  rcases h with rfl | rfl
  · rw [if_pos rfl]
    show (if (n : Int) - 1 > -1 then ((n : Int) - 1 - -1 - 1) / 1 + 1 else 0).toNat = n - 0
    rw [Int.ediv_one]
    split <;> omega
  · have e : (if (some (0 : Int)) = none then (-1 : Int) else min 0 ((n : Int) - 1)) = min 0 ((n : Int) - 1) := if_neg (by simp)
    rw [e]
    show (if (n : Int) - 1 > min 0 ((n : Int) - 1) then ((n : Int) - 1 - min 0 ((n : Int) - 1) - 1) / 1 + 1 else 0).toNat = n - 1
    rw [Int.ediv_one]
    split <;> omega
theorem fm_congr {α β : Type} {f g : α → Option β} : ∀ {l : List α}, (∀ x ∈ l, f x = g x) → l.filterMap f = l.filterMap g
  | [], _ => rfl
  | x :: l, h => by
    rw [List.filterMap_cons, List.filterMap_cons, h x (List.mem_cons_self ..), fm_congr fun y m => h y (List.mem_cons_of_mem _ m)]
theorem sliceApplied_rev {sl : Addr} {vl vu vs : Value} {hi : Option Int} {n : Nat} {Q : Int × Int × Nat → Shared → Prop} (h0 : hi = none ∨ hi = some 0) (hs : s.heap.IsSliceOf sl vl vu vs) (pl : IsPart vl none) (pu : IsPart vu hi) (ps : IsPart vs (some (-1)))
    (h : Q ((n : Int) - 1, -1, n - offs hi) s) : wpAny (model prog w) A (Builtin.Slice.sliceApplied (.ref sl) (pure (n : Int))) Q E s := by
  obtain ⟨os, hos, hcs, hds⟩ := id hs
  unfold Builtin.Slice.sliceApplied Builtin.Slice.sliceFields
  refine wpAny_bind (wpAny_bind (wpAny_field hos hds (x := vl) rfl (wpAny_bind (wpAny_field hos hds (x := vu) rfl (wpAny_bind (wpAny_field hos hds (x := vs) rfl (wpAny_pure ?_)))))))
  refine wpAny_bind (HT.slicePart_ ps ?_)
  show wpAny _ _ (if ((-1 : Int) == 0) = true then _ else _) _ _ s
  rw [if_neg (by decide)]
  refine wpAny_bind (HT.slicePart_ pl (wpAny_bind (HT.slicePart_ pu (wpAny_bind (wpAny_pure ?_)))))
  show wpAny _ _ (match Builtin.Slice.sliceAdjust none hi (-1) (n : Int) with | (lo, hi) => pure (lo, (-1 : Int), Builtin.Slice.slicePlaces lo hi (-1))) _ _ s
  rw [adjust_rev h0 n]
  show wpAny _ _ (pure ((n : Int) - 1, (-1 : Int), Builtin.Slice.slicePlaces ((n : Int) - 1) (if hi = none then -1 else min 0 ((n : Int) - 1)) (-1))) _ _ s
  rw [places_rev h0]
  exact wpAny_pure h
theorem pick_rev (xs : Array Value) (d : Nat) : ((List.range (xs.size - d)).filterMap fun (m : Nat) => xs[(((xs.size : Nat) : Int) - 1 + (m : Int) * (-1)).toNat]?).toArray = (xs.toList.drop d).reverse.toArray := by
  congr 1
  have e1 : (List.range (xs.size - d)).filterMap (fun (m : Nat) => xs[(((xs.size : Nat) : Int) - 1 + (m : Int) * (-1)).toNat]?) = (List.range (xs.size - d)).filterMap fun m => (xs.toList.drop d).reverse[m]? := by
    refine fm_congr fun m hm => ?_
    have hm := List.mem_range.mp hm
    have hx : (((xs.size : Nat) : Int) - 1 + (m : Int) * (-1)).toNat = xs.size - 1 - m := by omega
    rw [hx, List.getElem?_reverse (by rw [List.length_drop, Array.length_toList]; omega), List.getElem?_drop, List.length_drop, Array.length_toList, Array.getElem?_toList]
    congr 1
    omega
  rw [e1]
  have l : (xs.toList.drop d).reverse.length = xs.size - d := by rw [List.length_reverse, List.length_drop, Array.length_toList]
  rw [← l]
  generalize (xs.toList.drop d).reverse = ys
  have key : ∀ (ys : List Value) (k : Nat), k ≤ ys.length → (List.range k).filterMap (fun m => ys[m]?) = ys.take k := by
    intro ys k
    induction k with
    | zero => intro _; rfl
    | succ k ih =>
      intro hk
      rw [List.range_succ, List.filterMap_append, ih (by omega), List.take_succ]
      congr 1
  rw [key ys ys.length (Nat.le_refl _), List.take_length]
theorem getItem_tuple_rev {t sl : Addr} {items : Array Value} {vl vu vs : Value} {hi : Option Int} {Q : Value → Shared → Prop} (h0 : hi = none ∨ hi = some 0) (ht : IsTup s.heap t items) (hs : s.heap.IsSliceOf sl vl vu vs) (pl : IsPart vl none) (pu : IsPart vu hi) (ps : IsPart vs (some (-1)))
    (h : Q (.ref s.heap.objs.size) { s with heap := s.heap.push { cls := .type "tuple", data := .seq (items.toList.drop (offs hi)).reverse.toArray } })
    (hsz : items.size ≤ sizeLine) : wpAny (model prog w) A (getItem (.ref t) (.ref sl)) Q E s := by
  have htake : sizeOk (.seq (items.toList.drop (offs hi)).reverse.toArray) := by
    show (items.toList.drop (offs hi)).reverse.toArray.size ≤ sizeLine
    rw [List.size_toArray, List.length_reverse, List.length_drop, Array.length_toList]
    omega
  obtain ⟨os, hos, hcs, hds⟩ := id hs
  have hTs : s.TypeIs (.ref sl) "slice" := ⟨os, hos, hcs⟩
  unfold getItem
  try with_reducible refine wpAny_holding ?_
  first | refine wpAny_bind (wpAny_pure ?_) | skip
  refine wpAny_bind (wpAny_sequenceKey ht.typeIs (by decide) ?_)
  refine wpAny_bind (wpAny_callSpecial?_slot (name := Str.ofString "__getitem__") ht.typeIs PyProof.Rows.slot_tuple_getitem
    (wpAny_call_entry PyProof.Rows.slot_tuple_getitem ht.typeIs entry_tuple_getitem ?_ (args_tuple_getitem _ _)))
  show wpAny _ _ (Builtin.Tuple.tupleItemsOf (.ref t) >>= _) _ _ s
  refine wpAny_bind (tupleItemsOf_ ht ?_)
  refine wpAny_bind (wpAny_typeOf hTs ?_)
  rw [if_pos (by decide)]
  refine wpAny_bind (sliceApplied_rev h0 hs pl pu ps ?_)
  have hno : ¬ ((((items.size : Nat) : Int) - 1 == 0 && (-1 : Int) == 1 && (items.size - offs hi) == items.size) = true) := by
    intro q
    rw [Bool.and_eq_true, Bool.and_eq_true] at q
    have : (-1 : Int) = 1 := eq_of_beq q.1.2
    exact absurd this (by decide)
  show wpAny _ _ (if (((items.size : Nat) : Int) - 1 == 0 && (-1 : Int) == 1 && (items.size - offs hi) == items.size) = true then _ else _) _ _ s
  rw [if_neg hno, pick_rev]
  first
    | exact wpAny_bind (m := Builtin.Tuple.tupleExact _) (wpAny_newObj_type (wpAny_pure ⟨_, rfl, wpAny_pure h⟩) htake)
    | exact wpAny_bind (m := Builtin.Tuple.tupleExact _) (wpAny_newObj_type (wpAny_bind (wpAny_pure (wpAny_pure ⟨_, rfl, wpAny_pure h⟩))) htake)
    | exact wpAny_bind (wpAny_bind (m := Builtin.Tuple.tupleExact _) (wpAny_newObj_type (wpAny_pure (wpAny_pure ⟨_, rfl, wpAny_pure h⟩)) htake))
    | exact wpAny_bind (wpAny_bind (m := Builtin.Tuple.tupleExact _) (wpAny_newObj_type (wpAny_pure ⟨_, rfl, wpAny_pure h⟩) htake))
end
end Rz
namespace Rz
open PySem PySem.Spec PyProof.Rows L2
section
variable {X : Cx}
def tRevT (K : PySem.W.Frag) (te : TE) (th : TO) : TE := fun σ H Q => te σ H fun x H1 => th σ H1 fun o H2 => ∃ a xs, x = .ref a ∧ SqT K H2 a xs ∧ (o = none ∨ o = some 0) ∧ ∀ p, H2 p = none → Q (.ref p) (upd H2 p (.tup (xs.drop (offs o)).reverse))
theorem pe_revT {e : Expr} {hi : Option Expr} {te : TE} {th : TO} {k : Nat} {p1 p2 p3 pos : Pos} (he : PE X e te) (hu : PO X hi th) : PE X (.Subscript e (.Slice none hi (some (.UnaryOp .USub (.Constant (.int 1) k p1) p2)) p3) pos) (tRevT X.K te th) := by
  refine ⟨fun pins s σ H Q I h => ?_⟩
  refine Subscript_ (thn (he.run pins s σ H _ I h) fun v s1 ⟨x, H1, I1, r1, q1⟩ => ?_)
  have hst : PO X (some (.UnaryOp .USub (.Constant (.int 1) k p1) p2)) (tPart (tUn (rU fun i => .int (-i)) (tC (.int 1)))) := po_some (pe_un un_neg pe_int)
  refine wpAny_Slice (thn (po_none.run pins s1 σ H1 (fun o H2 => o = none ∧ H2 = H1) I1 ⟨rfl, rfl⟩) fun vl s2 ⟨l, H2, I2, pl, el, e2⟩ => ?_)
  subst el e2
  refine thn (hu.run pins s2 σ H2 _ I2 q1) fun vu s3 ⟨u, H3, I3, pu, q⟩ => ?_
  obtain ⟨a, xs, ex, hx, h0, q⟩ := q
  subst ex
  cases r1
  refine thn (hst.run pins s3 σ H3 (fun o H4 => o = some (-1) ∧ H4 = H3) I3 ⟨1, rfl, -1, rfl, rfl, rfl⟩) fun vs s4 ⟨o, H4, I4, ps, eo, e4⟩ => ?_
  subst eo e4
  have I5 : Inv X pins σ H4 { s4 with heap := s4.heap.push { cls := .type "slice", data := .fields #[vl, vu, vs] } } := I4.kept (t' := s4.toks) fun b ob q => Heap.get?_push_of_some _ q
  obtain ⟨its, r, ht, hz⟩ := I5.tuple hx
  have hlen := r.length
  show wpAny (model X.prog X.w) X.A (subscriptTail e (.Slice none hi (some (.UnaryOp .USub (.Constant (.int 1) k p1) p2)) p3) (.ref a) (.ref s4.heap.objs.size)) (EP X pins σ Q) X.xe { s4 with heap := s4.heap.push { cls := .type "slice", data := .fields #[vl, vu, vs] } }
  refine tail_any (ops := [.ref a, .ref s4.heap.objs.size]) ht.typeIs (PyProof.Rows.slot_tuple_getitem.lookup) ?_ (by with_unfolding_all rfl)
  refine getItem_tuple_rev h0 ht (Heap.IsSliceOf.new _ vl vu vs) pl pu ps ?_ (by rw [List.size_toArray]; omega)
  refine ⟨.ref _, _, I5.laid (t' := s4.toks) (o := .tup (xs.drop (offs u)).reverse) (fun b ob q => Heap.get?_push_of_some _ q) (Nat.le_refl _) ?_, rfl, q _ (I5.hok.fresh (Nat.le_refl _))⟩
  exact ⟨by rw [List.length_reverse, List.length_drop]; omega, _, (r.drop (offs u)).reverse, IsTup.new _ _⟩
end
end Rz
namespace Rz
open PySem PySem.Spec PyProof.Rows L2
theorem slA {K : PySem.W.Frag} {H : Hp} {a : Addr} {xs : List V} {lo hi : Option Int} {Q : VK} (h : SqT K H a xs) (k : ∀ (p : Addr) (G : Hp), Same H G → SqT K G p (cutV xs lo hi) → Q (.ref p) G) : rSlA K (.ref a) lo hi H Q :=
  ⟨a, xs, rfl, h, fun w => k a H (Same.refl _) (by
    have : cutV xs lo hi = xs := by
      unfold cutV
      rw [w.1, w.2, List.drop_zero, Nat.sub_zero, List.take_length]
    rw [this]
    exact h), fun _ p n => k p _ (Rd.same_upd n) (.of upd_same)⟩
theorem revT {K : PySem.W.Frag} {te : TE} {th : TO} {σ : L2.St} {H : Hp} {Q : VK} (h : te σ H fun x H1 => th σ H1 fun o H2 => ∃ a xs, x = .ref a ∧ SqT K H2 a xs ∧ (o = none ∨ o = some 0) ∧ Rd.NewQ (.tup (xs.drop (offs o)).reverse) Q H2) : tRevT K te th σ H Q := h
end Rz
namespace Rz
open PySem PySem.Spec PyProof.Rows L2
theorem slH {K : PySem.W.Frag} {H : Hp} {a : Addr} {xs : List V} {lo hi : Option Int} {Q : VK} (h : H a = some (.tup xs)) (k : ∀ (p : Addr) (G : Hp), Same H G → G p = some (.tup (cutV xs lo hi)) → Q (.ref p) G) : rSlA K (.ref a) lo hi H Q :=
  ⟨a, xs, rfl, .of h, fun w => k a H (Same.refl _) (by
    have : cutV xs lo hi = xs := by
      unfold cutV
      rw [w.1, w.2, List.drop_zero, Nat.sub_zero, List.take_length]
    rw [this]
    exact h), fun _ p n => k p _ (Rd.same_upd n) upd_same⟩
theorem catH {K : PySem.W.Frag} {H : Hp} {a b : Addr} {xs ys : List V} {Q : VK} (h1 : H a = some (.tup xs)) (h2 : H b = some (.tup ys)) (hz : xs.length + ys.length ≤ sizeLine) (k : ∀ (r : Addr) (G : Hp), Same H G → G r = some (.tup (xs ++ ys)) → Q (.ref r) G) : rCatA K (.ref a) (.ref b) H Q :=
  ⟨a, b, xs, ys, rfl, rfl, .of h1, .of h2, hz, fun e => k b H (Same.refl _) (by rw [e]; exact h2), fun _ e => k a H (Same.refl _) (by rw [e, List.append_nil]; exact h1), fun _ _ p n => k p _ (Rd.same_upd n) upd_same⟩
end Rz
namespace Rz
open PySem PySem.Spec PyProof.Rows L2
theorem rng2 {ta : TA} {σ : L2.St} {H : Hp} {R : It → Hp → Prop} (h : ta σ H fun vs H1 => ∃ i j : Int, vs = [.int i, .int j] ∧ (-(2 ^ 62) ≤ i ∧ i < 2 ^ 62 ∧ -(2 ^ 62) ≤ j ∧ j < 2 ^ 62) ∧ R (Itr i (j - i).toNat) H1) : iRng2 ta σ H R := h
end Rz

namespace W
open PySem PySem.Spec PyProof.Rows L2
def top (i : Nat) : Stmt := PySem.Challenge.pw_watchedways_k08_zigzags_and_cuts_judged.main.body.getD i (.Pass ⟨0, 0, 0, 0⟩)
abbrev s_is_integer : Stmt := top 10
abbrev s_is_letters : Stmt := top 11
abbrev s_is_word : Stmt := top 12
abbrev s_is_watch : Stmt := top 13
abbrev s_check_word : Stmt := top 14
abbrev s_Book_init : Stmt := inClass (top 17) 0
abbrev s_check_book : Stmt := top 18
abbrev s_links_of : Stmt := top 20
abbrev s_grown : Stmt := top 21
abbrev s_distances : Stmt := top 22
abbrev s_shortest : Stmt := top 23
abbrev s_zigzag : Stmt := top 24
abbrev s_is_zigzag : Stmt := top 25
abbrev s_cut : Stmt := top 27
abbrev s_greatest_cut : Stmt := top 28
abbrev s_fits_cut : Stmt := top 29
abbrev s_is_cut : Stmt := top 30
abbrev s_l_tape : Stmt := top 32
abbrev s_l_pick : Stmt := top 33
abbrev s_l_flag : Stmt := top 34
abbrev s_l_letters : Stmt := top 35
abbrev s_l_word : Stmt := top 36
abbrev s_l_watch : Stmt := top 37
abbrev s_l_watches : Stmt := top 38
abbrev s_l_near : Stmt := top 39
abbrev s_l_is_zigzag : Stmt := top 40
abbrev s_l_bent : Stmt := top 41
abbrev s_l_first : Stmt := top 42
abbrev s_l_flood : Stmt := top 43
abbrev s_l_is_cut : Stmt := top 44
abbrev s_l_lot : Stmt := top 45
abbrev s_l_bent_too : Stmt := top 46
abbrev s_l_second : Stmt := top 47
abbrev s_law : Stmt := top 48
theorem sc_is_integer : FnScope ["value"] ["value"] (defScope s_is_integer) := ⟨rfl, rfl, rfl, by decide +kernel, rfl, by decide +kernel, by decide +kernel⟩
theorem sc_is_letters : FnScope ["value", "letter"] ["value"] (defScope s_is_letters) := ⟨rfl, rfl, rfl, by decide +kernel, rfl, by decide +kernel, by decide +kernel⟩
theorem sc_is_word : FnScope ["thing"] ["thing"] (defScope s_is_word) := ⟨rfl, rfl, rfl, by decide +kernel, rfl, by decide +kernel, by decide +kernel⟩
theorem sc_is_watch : FnScope ["thing"] ["thing"] (defScope s_is_watch) := ⟨rfl, rfl, rfl, by decide +kernel, rfl, by decide +kernel, by decide +kernel⟩
theorem sc_check_word : FnScope ["word"] ["word"] (defScope s_check_word) := ⟨rfl, rfl, rfl, by decide +kernel, rfl, by decide +kernel, by decide +kernel⟩
theorem sc_Book_init : FnScope ["self", "watches", "found", "at", "watch"] ["self", "watches"] (defScope s_Book_init) := ⟨rfl, rfl, rfl, by decide +kernel, rfl, by decide +kernel, by decide +kernel⟩
theorem sc_check_book : FnScope ["book"] ["book"] (defScope s_check_book) := ⟨rfl, rfl, rfl, by decide +kernel, rfl, by decide +kernel, by decide +kernel⟩
theorem sc_links_of : FnScope ["watches", "word", "spot", "found", "watch", "row"] ["watches", "word"] (defScope s_links_of) := ⟨rfl, rfl, rfl, by decide +kernel, rfl, by decide +kernel, by decide +kernel⟩
theorem sc_grown : FnScope ["links", "spots", "found", "at", "spot"] ["links", "spots"] (defScope s_grown) := ⟨rfl, rfl, rfl, by decide +kernel, rfl, by decide +kernel, by decide +kernel⟩
theorem sc_distances : FnScope ["links", "found", "row", "later", "spot", "other"] ["links"] (defScope s_distances) := ⟨rfl, rfl, rfl, by decide +kernel, rfl, by decide +kernel, by decide +kernel⟩
theorem sc_shortest : FnScope ["watches", "word", "links", "far", "found", "spot", "other"] ["watches", "word"] (defScope s_shortest) := ⟨rfl, rfl, rfl, by decide +kernel, rfl, by decide +kernel, by decide +kernel⟩
theorem sc_zigzag : FnScope ["book", "word"] ["book", "word"] (defScope s_zigzag) := ⟨rfl, rfl, rfl, by decide +kernel, rfl, by decide +kernel, by decide +kernel⟩
theorem sc_is_zigzag : FnScope ["book", "word", "thing", "links", "one", "other", "spot"] ["book", "word", "thing"] (defScope s_is_zigzag) := ⟨rfl, rfl, rfl, by decide +kernel, rfl, by decide +kernel, by decide +kernel⟩
theorem sc_cut : FnScope ["book", "word", "spots"] ["book", "word"] (defScope s_cut) := ⟨rfl, rfl, rfl, by decide +kernel, rfl, by decide +kernel, by decide +kernel⟩
theorem sc_greatest_cut : FnScope ["book", "word", "spots", "spot"] ["book", "word"] (defScope s_greatest_cut) := ⟨rfl, rfl, rfl, by decide +kernel, rfl, by decide +kernel, by decide +kernel⟩
theorem sc_fits_cut : FnScope ["watches", "word", "thing", "spot", "links", "one", "other"] ["watches", "word", "thing"] (defScope s_fits_cut) := ⟨rfl, rfl, rfl, by decide +kernel, rfl, by decide +kernel, by decide +kernel⟩
theorem sc_is_cut : FnScope ["book", "word", "thing"] ["book", "word", "thing"] (defScope s_is_cut) := ⟨rfl, rfl, rfl, by decide +kernel, rfl, by decide +kernel, by decide +kernel⟩
theorem sc_l_tape : FnScope ["_law_script"] ["_law_script"] (defScope s_l_tape) := ⟨rfl, rfl, rfl, by decide +kernel, rfl, by decide +kernel, by decide +kernel⟩
theorem sc_l_pick : FnScope ["_law_tape_here", "_law_size", "_law_digit", "_law_cell", "_law_mixed"] ["_law_tape_here", "_law_size"] (defScope s_l_pick) := ⟨rfl, rfl, rfl, by decide +kernel, rfl, by decide +kernel, by decide +kernel⟩
theorem sc_l_flag : FnScope ["_law_told", "_law_due"] ["_law_told", "_law_due"] (defScope s_l_flag) := ⟨rfl, rfl, rfl, by decide +kernel, rfl, by decide +kernel, by decide +kernel⟩
theorem sc_l_letters : FnScope ["_law_tape_here", "_law_many", "_law_start", "_law_step", "_law_k"] ["_law_tape_here", "_law_many"] (defScope s_l_letters) := ⟨rfl, rfl, rfl, by decide +kernel, rfl, by decide +kernel, by decide +kernel⟩
theorem sc_l_word : FnScope ["_law_tape_here", "_law_most", "_law_size", "_law_kind", "_law_letters_here", "_law_part", "_law_k"] ["_law_tape_here", "_law_most"] (defScope s_l_word) := ⟨rfl, rfl, rfl, by decide +kernel, rfl, by decide +kernel, by decide +kernel⟩
theorem sc_l_watch : FnScope ["_law_tape_here", "_law_word_here", "_law_most", "_law_size", "_law_at", "_law_k"] ["_law_tape_here", "_law_word_here", "_law_most"] (defScope s_l_watch) := ⟨rfl, rfl, rfl, by decide +kernel, rfl, by decide +kernel, by decide +kernel⟩
theorem sc_l_watches : FnScope ["_law_tape_here", "_law_word_here", "_law_many", "_law_most", "_law_found", "_law_low", "_law_high", "_law_piece", "_law_k", "_law_watch_here"] ["_law_tape_here", "_law_word_here", "_law_many", "_law_most"] (defScope s_l_watches) := ⟨rfl, rfl, rfl, by decide +kernel, rfl, by decide +kernel, by decide +kernel⟩
theorem sc_l_near : FnScope ["_law_watches_here", "_law_word_here", "_law_spot", "_law_found", "_law_other"] ["_law_watches_here", "_law_word_here", "_law_spot"] (defScope s_l_near) := ⟨rfl, rfl, rfl, by decide +kernel, rfl, by decide +kernel, by decide +kernel⟩
theorem sc_l_is_zigzag : FnScope ["_law_watches_here", "_law_word_here", "_law_thing", "_law_spot", "_law_k"] ["_law_watches_here", "_law_word_here", "_law_thing"] (defScope s_l_is_zigzag) := ⟨rfl, rfl, rfl, by decide +kernel, rfl, by decide +kernel, by decide +kernel⟩
theorem sc_l_bent : FnScope ["_law_tape_here", "_law_word_here", "_law_way", "_law_watches_here", "_law_at", "_law_other", "_law_row", "_law_kind", "_law_near_here"] ["_law_tape_here", "_law_word_here", "_law_way", "_law_watches_here"] (defScope s_l_bent) := ⟨rfl, rfl, rfl, by decide +kernel, rfl, by decide +kernel, by decide +kernel⟩
theorem sc_l_first : FnScope ["_law_script", "_law_tape_here", "_law_word_here", "_law_watches_here", "_law_book", "_law_way", "_law_turn", "_law_thing", "_law_kept", "_law_less", "_law_fewer", "_law_things", "_law_k"] ["_law_script"] (defScope s_l_first) := ⟨rfl, rfl, rfl, by decide +kernel, rfl, by decide +kernel, by decide +kernel⟩
theorem sc_l_flood : FnScope ["_law_watches_here", "_law_word_here", "_law_start", "_law_found", "_law_k", "_law_spot"] ["_law_watches_here", "_law_word_here", "_law_start"] (defScope s_l_flood) := ⟨rfl, rfl, rfl, by decide +kernel, rfl, by decide +kernel, by decide +kernel⟩
theorem sc_l_is_cut : FnScope ["_law_watches_here", "_law_word_here", "_law_thing", "_law_last", "_law_spot", "_law_k"] ["_law_watches_here", "_law_word_here", "_law_thing"] (defScope s_l_is_cut) := ⟨rfl, rfl, rfl, by decide +kernel, rfl, by decide +kernel, by decide +kernel⟩
theorem sc_l_lot : FnScope ["_law_tape_here", "_law_watches_here", "_law_word_here", "_law_found", "_law_spot"] ["_law_tape_here", "_law_watches_here", "_law_word_here"] (defScope s_l_lot) := ⟨rfl, rfl, rfl, by decide +kernel, rfl, by decide +kernel, by decide +kernel⟩
theorem sc_l_bent_too : FnScope ["_law_tape_here", "_law_word_here", "_law_lot_here", "_law_row", "_law_kind", "_law_at"] ["_law_tape_here", "_law_word_here", "_law_lot_here"] (defScope s_l_bent_too) := ⟨rfl, rfl, rfl, by decide +kernel, rfl, by decide +kernel, by decide +kernel⟩
theorem sc_l_second : FnScope ["_law_script", "_law_tape_here", "_law_word_here", "_law_watches_here", "_law_book", "_law_first_here", "_law_last", "_law_due", "_law_turn", "_law_lot_here", "_law_thing", "_law_kept", "_law_spot"] ["_law_script"] (defScope s_l_second) := ⟨rfl, rfl, rfl, by decide +kernel, rfl, by decide +kernel, by decide +kernel⟩
theorem sc_law : FnScope ["_law_script"] ["_law_script"] (defScope s_law) := ⟨rfl, rfl, rfl, by decide +kernel, rfl, by decide +kernel, by decide +kernel⟩
structure Txt (K : PySem.W.Frag) (mg : Str → Option Value) where
  C_Book : Addr
  c_Book : mg "Book" = some (.ref C_Book)
  cl_Book : Cls K C_Book
  ty_Book : OwnTy K C_Book
  na_Book_watches : NoAttr K C_Book "watches"
  ki_Book : PySem.W.mroIn K C_Book (.type "int") = some false
  kb_Book : PySem.W.mroIn K C_Book (.type "bool") = some false
  ic_Book : PySem.W.isClsIn K C_Book = true
  tc_Book : PySem.W.typeIn K (.ref C_Book) = some (.type "type")
  sl_Book : PySem.W.subIn K (.ref C_Book) (.ref C_Book) = some true
  kt_Book : PySem.W.mroIn K C_Book (.type "tuple") = some false
  f_is_integer : Addr
  fd_is_integer : FuncData
  F_is_integer : Fun K "is_integer" "is_integer" s_is_integer f_is_integer fd_is_integer
  g_is_integer : mg "is_integer" = some (.ref f_is_integer)
  b_is_integer : Binds K fd_is_integer ["value"] []
  f_is_letters : Addr
  fd_is_letters : FuncData
  F_is_letters : Fun K "is_letters" "is_letters" s_is_letters f_is_letters fd_is_letters
  g_is_letters : mg "is_letters" = some (.ref f_is_letters)
  b_is_letters : Binds K fd_is_letters ["value"] []
  f_is_word : Addr
  fd_is_word : FuncData
  F_is_word : Fun K "is_word" "is_word" s_is_word f_is_word fd_is_word
  g_is_word : mg "is_word" = some (.ref f_is_word)
  b_is_word : Binds K fd_is_word ["thing"] []
  f_is_watch : Addr
  fd_is_watch : FuncData
  F_is_watch : Fun K "is_watch" "is_watch" s_is_watch f_is_watch fd_is_watch
  g_is_watch : mg "is_watch" = some (.ref f_is_watch)
  b_is_watch : Binds K fd_is_watch ["thing"] []
  f_check_word : Addr
  fd_check_word : FuncData
  F_check_word : Fun K "check_word" "check_word" s_check_word f_check_word fd_check_word
  g_check_word : mg "check_word" = some (.ref f_check_word)
  b_check_word : Binds K fd_check_word ["word"] []
  f_Book_init : Addr
  fd_Book_init : FuncData
  F_Book_init : Fun K "__init__" "Book.__init__" s_Book_init f_Book_init fd_Book_init
  M_Book : Mk K C_Book f_Book_init
  b_Book_init : Binds K fd_Book_init ["self", "watches"] []
  f_check_book : Addr
  fd_check_book : FuncData
  F_check_book : Fun K "check_book" "check_book" s_check_book f_check_book fd_check_book
  g_check_book : mg "check_book" = some (.ref f_check_book)
  b_check_book : Binds K fd_check_book ["book"] []
  f_links_of : Addr
  fd_links_of : FuncData
  F_links_of : Fun K "links_of" "links_of" s_links_of f_links_of fd_links_of
  g_links_of : mg "links_of" = some (.ref f_links_of)
  b_links_of : Binds K fd_links_of ["watches", "word"] []
  f_grown : Addr
  fd_grown : FuncData
  F_grown : Fun K "grown" "grown" s_grown f_grown fd_grown
  g_grown : mg "grown" = some (.ref f_grown)
  b_grown : Binds K fd_grown ["links", "spots"] []
  f_distances : Addr
  fd_distances : FuncData
  F_distances : Fun K "distances" "distances" s_distances f_distances fd_distances
  g_distances : mg "distances" = some (.ref f_distances)
  b_distances : Binds K fd_distances ["links"] []
  f_shortest : Addr
  fd_shortest : FuncData
  F_shortest : Fun K "shortest" "shortest" s_shortest f_shortest fd_shortest
  g_shortest : mg "shortest" = some (.ref f_shortest)
  b_shortest : Binds K fd_shortest ["watches", "word"] []
  f_zigzag : Addr
  fd_zigzag : FuncData
  F_zigzag : Fun K "zigzag" "zigzag" s_zigzag f_zigzag fd_zigzag
  g_zigzag : mg "zigzag" = some (.ref f_zigzag)
  b_zigzag : Binds K fd_zigzag ["book", "word"] []
  f_is_zigzag : Addr
  fd_is_zigzag : FuncData
  F_is_zigzag : Fun K "is_zigzag" "is_zigzag" s_is_zigzag f_is_zigzag fd_is_zigzag
  g_is_zigzag : mg "is_zigzag" = some (.ref f_is_zigzag)
  b_is_zigzag : Binds K fd_is_zigzag ["book", "word", "thing"] []
  f_cut : Addr
  fd_cut : FuncData
  F_cut : Fun K "cut" "cut" s_cut f_cut fd_cut
  g_cut : mg "cut" = some (.ref f_cut)
  b_cut : Binds K fd_cut ["book", "word"] []
  f_greatest_cut : Addr
  fd_greatest_cut : FuncData
  F_greatest_cut : Fun K "greatest_cut" "greatest_cut" s_greatest_cut f_greatest_cut fd_greatest_cut
  g_greatest_cut : mg "greatest_cut" = some (.ref f_greatest_cut)
  b_greatest_cut : Binds K fd_greatest_cut ["book", "word"] []
  f_fits_cut : Addr
  fd_fits_cut : FuncData
  F_fits_cut : Fun K "fits_cut" "fits_cut" s_fits_cut f_fits_cut fd_fits_cut
  g_fits_cut : mg "fits_cut" = some (.ref f_fits_cut)
  b_fits_cut : Binds K fd_fits_cut ["watches", "word", "thing"] []
  f_is_cut : Addr
  fd_is_cut : FuncData
  F_is_cut : Fun K "is_cut" "is_cut" s_is_cut f_is_cut fd_is_cut
  g_is_cut : mg "is_cut" = some (.ref f_is_cut)
  b_is_cut : Binds K fd_is_cut ["book", "word", "thing"] []
  f_l_tape : Addr
  fd_l_tape : FuncData
  F_l_tape : Fun K "_law_tape" "_law_tape" s_l_tape f_l_tape fd_l_tape
  g_l_tape : mg "_law_tape" = some (.ref f_l_tape)
  b_l_tape : Binds K fd_l_tape ["_law_script"] []
  f_l_pick : Addr
  fd_l_pick : FuncData
  F_l_pick : Fun K "_law_pick" "_law_pick" s_l_pick f_l_pick fd_l_pick
  g_l_pick : mg "_law_pick" = some (.ref f_l_pick)
  b_l_pick : Binds K fd_l_pick ["_law_tape_here", "_law_size"] []
  f_l_flag : Addr
  fd_l_flag : FuncData
  F_l_flag : Fun K "_law_flag" "_law_flag" s_l_flag f_l_flag fd_l_flag
  g_l_flag : mg "_law_flag" = some (.ref f_l_flag)
  b_l_flag : Binds K fd_l_flag ["_law_told", "_law_due"] []
  f_l_letters : Addr
  fd_l_letters : FuncData
  F_l_letters : Fun K "_law_letters" "_law_letters" s_l_letters f_l_letters fd_l_letters
  g_l_letters : mg "_law_letters" = some (.ref f_l_letters)
  b_l_letters : Binds K fd_l_letters ["_law_tape_here", "_law_many"] []
  f_l_word : Addr
  fd_l_word : FuncData
  F_l_word : Fun K "_law_word" "_law_word" s_l_word f_l_word fd_l_word
  g_l_word : mg "_law_word" = some (.ref f_l_word)
  b_l_word : Binds K fd_l_word ["_law_tape_here", "_law_most"] []
  f_l_watch : Addr
  fd_l_watch : FuncData
  F_l_watch : Fun K "_law_watch" "_law_watch" s_l_watch f_l_watch fd_l_watch
  g_l_watch : mg "_law_watch" = some (.ref f_l_watch)
  b_l_watch : Binds K fd_l_watch ["_law_tape_here", "_law_word_here", "_law_most"] []
  f_l_watches : Addr
  fd_l_watches : FuncData
  F_l_watches : Fun K "_law_watches" "_law_watches" s_l_watches f_l_watches fd_l_watches
  g_l_watches : mg "_law_watches" = some (.ref f_l_watches)
  b_l_watches : Binds K fd_l_watches ["_law_tape_here", "_law_word_here", "_law_many", "_law_most"] []
  f_l_near : Addr
  fd_l_near : FuncData
  F_l_near : Fun K "_law_near" "_law_near" s_l_near f_l_near fd_l_near
  g_l_near : mg "_law_near" = some (.ref f_l_near)
  b_l_near : Binds K fd_l_near ["_law_watches_here", "_law_word_here", "_law_spot"] []
  f_l_is_zigzag : Addr
  fd_l_is_zigzag : FuncData
  F_l_is_zigzag : Fun K "_law_is_zigzag" "_law_is_zigzag" s_l_is_zigzag f_l_is_zigzag fd_l_is_zigzag
  g_l_is_zigzag : mg "_law_is_zigzag" = some (.ref f_l_is_zigzag)
  b_l_is_zigzag : Binds K fd_l_is_zigzag ["_law_watches_here", "_law_word_here", "_law_thing"] []
  f_l_bent : Addr
  fd_l_bent : FuncData
  F_l_bent : Fun K "_law_bent" "_law_bent" s_l_bent f_l_bent fd_l_bent
  g_l_bent : mg "_law_bent" = some (.ref f_l_bent)
  b_l_bent : Binds K fd_l_bent ["_law_tape_here", "_law_word_here", "_law_way", "_law_watches_here"] []
  f_l_first : Addr
  fd_l_first : FuncData
  F_l_first : Fun K "_law_first" "_law_first" s_l_first f_l_first fd_l_first
  g_l_first : mg "_law_first" = some (.ref f_l_first)
  b_l_first : Binds K fd_l_first ["_law_script"] []
  f_l_flood : Addr
  fd_l_flood : FuncData
  F_l_flood : Fun K "_law_flood" "_law_flood" s_l_flood f_l_flood fd_l_flood
  g_l_flood : mg "_law_flood" = some (.ref f_l_flood)
  b_l_flood : Binds K fd_l_flood ["_law_watches_here", "_law_word_here", "_law_start"] []
  f_l_is_cut : Addr
  fd_l_is_cut : FuncData
  F_l_is_cut : Fun K "_law_is_cut" "_law_is_cut" s_l_is_cut f_l_is_cut fd_l_is_cut
  g_l_is_cut : mg "_law_is_cut" = some (.ref f_l_is_cut)
  b_l_is_cut : Binds K fd_l_is_cut ["_law_watches_here", "_law_word_here", "_law_thing"] []
  f_l_lot : Addr
  fd_l_lot : FuncData
  F_l_lot : Fun K "_law_lot" "_law_lot" s_l_lot f_l_lot fd_l_lot
  g_l_lot : mg "_law_lot" = some (.ref f_l_lot)
  b_l_lot : Binds K fd_l_lot ["_law_tape_here", "_law_watches_here", "_law_word_here"] []
  f_l_bent_too : Addr
  fd_l_bent_too : FuncData
  F_l_bent_too : Fun K "_law_bent_too" "_law_bent_too" s_l_bent_too f_l_bent_too fd_l_bent_too
  g_l_bent_too : mg "_law_bent_too" = some (.ref f_l_bent_too)
  b_l_bent_too : Binds K fd_l_bent_too ["_law_tape_here", "_law_word_here", "_law_lot_here"] []
  f_l_second : Addr
  fd_l_second : FuncData
  F_l_second : Fun K "_law_second" "_law_second" s_l_second f_l_second fd_l_second
  g_l_second : mg "_law_second" = some (.ref f_l_second)
  b_l_second : Binds K fd_l_second ["_law_script"] []
  f_law : Addr
  fd_law : FuncData
  F_law : Fun K "law" "law" s_law f_law fd_law
  g_law : mg "law" = some (.ref f_law)
  b_law : Binds K fd_law ["_law_script"] []
  n_isinstance : mg "isinstance" = none
  n_int : mg "int" = none
  n_bool : mg "bool" = none
  n_str : mg "str" = none
  n_all : mg "all" = none
  n_len : mg "len" = none
  n_enumerate : mg "enumerate" = none
  n_tuple : mg "tuple" = none
  n_list : mg "list" = none
  n_range : mg "range" = none
  n_sorted : mg "sorted" = none
  n_zip : mg "zip" = none
  n_set : mg "set" = none
  n_min : mg "min" = none
  n_max : mg "max" = none
  n_repr : mg "repr" = none
  t_LETTERS : Tok
  m_LETTERS : mg "LETTERS" = some (.str "abcdefghijklmnopqrstuvwxyz" t_LETTERS)
  t_MOST_WORD : Tok
  m_MOST_WORD : mg "MOST_WORD" = some (.int 40 t_MOST_WORD)
  t_MOST_WATCH : Tok
  m_MOST_WATCH : mg "MOST_WATCH" = some (.int 12 t_MOST_WATCH)
  t_MOST_WATCHES : Tok
  m_MOST_WATCHES : mg "MOST_WATCHES" = some (.int 12 t_MOST_WATCHES)
end W

local macro_rules | `(tactic| walk_at "rd") => `(tactic| repeat (first
  | with_reducible refine Rd.seq ?_ | with_reducible refine Rd.asg ?_ | with_reducible refine Rd.name ?_ | with_reducible refine Rd.var rfl ?_ | with_reducible refine Rd.con ?_ | with_reducible refine Rd.op ?_
  | with_reducible refine Rd.ret ?_ | with_reducible refine Rd.ifS ?_ | with_reducible refine Rd.test ?_ | with_reducible refine Rd.tstB ?_ | with_reducible refine Rd.bl ?_ | with_reducible refine Rd.blE ?_
  | with_reducible refine Rd.nil ?_ | with_reducible refine Rd.cons ?_ | with_reducible refine Rd.cb ?_ | with_reducible refine Rd.call ?_ | with_reducible refine Rd.un ?_
  | with_reducible refine Rd.i0 ?_ | with_reducible refine Rd.u1 ?_ | with_reducible refine Rd.eqI ?_ | with_reducible refine Rd.neI ?_ | with_reducible refine Rd.eqB ?_ | with_reducible refine Rd.neB ?_ | with_reducible refine Rd.eqS ?_ | with_reducible refine Rd.neS ?_
  | with_reducible refine Rd.and ?_ | with_reducible refine Rd.or ?_ | with_reducible refine Rd.not ?_ | with_reducible refine Rd.andV ?_ | with_reducible refine Rd.orV ?_ | with_reducible refine Rd.notV ?_ | with_reducible refine Rd.ifE ?_ | with_reducible refine Rd.chain ?_
  | with_reducible refine Rd.tup ?_ | with_reducible refine Rd.lst ?_ | with_reducible refine Rd.nxt ?_ | with_reducible refine Rd.retN ?_ | with_reducible refine Rd.drop ?_ | with_reducible refine Rd.brk ?_ | with_reducible refine Rd.cont ?_
  | with_reducible refine Rd.a1 ?_ | with_reducible refine Rd.a2 ?_ | with_reducible refine Rd.v2 ?_ | with_reducible refine Rd.int ?_ | with_reducible refine Rd.abs ?_ | with_reducible refine Rd.max2 ?_ | with_reducible refine Rd.min2 ?_ | with_reducible refine Rd.bm ?_ | with_reducible refine Rd.bm0 ?_ | with_reducible refine Rd.sl ?_ | with_reducible refine Rd.part ?_ | with_reducible refine Rd.noPart ?_ | with_reducible refine Rd.intE ?_ | with_reducible refine Rd.revL ?_ | with_reducible refine Rd.enx ?_ | with_reducible refine Rd.ebk ?_ | with_reducible refine Rd.ect ?_ | with_reducible refine Rd.ert ?_ | with_reducible refine Rd.gcons ?_ | with_reducible refine Rd.gnil ?_ | with_reducible refine Rd.par ?_ | with_reducible refine Rd.sub ?_ | with_reducible refine Rd.iter ?_ | with_reducible refine Rd.iterT ?_ | with_reducible refine Rd.rng1 ?_ | with_reducible refine Rd.refE ?_ | with_reducible refine Rd.aug rfl ?_ | with_reducible refine Rd.ipi ?_ | with_reducible refine Rd.lc ?_ | with_reducible refine Rd.tyes ?_ | with_reducible refine Rd.fldH ?_ | with_reducible refine Rd.sfldH ?_ | with_reducible refine Rd.mkH ?_ | with_reducible refine Rd.methH ?_ | with_reducible refine Rd.istr ?_ | with_reducible refine Rd.strE ?_ | with_reducible refine Rd.lstRg ?_ | with_reducible refine Rd.m1 ?_ | with_reducible refine Rd.dgetH ?_ | with_reducible refine Rd.dinH ?_ | with_reducible refine Rd.dninH ?_ | with_reducible refine Rd.dget1H ?_ | with_reducible refine Rd.strX ?_ | with_reducible refine Rd.tupRg ?_ | with_reducible refine Rd.rg1 ?_ | with_reducible refine Rd.rg2 ?_ | with_reducible refine Rd.intE2 ?_ | with_reducible refine Rw.zipH ?_ | with_reducible refine Rw.itemsH ?_ | with_reducible refine Rw.keysH ?_ | with_reducible refine Rw.dc ?_ | with_reducible refine Rw.ckw ?_ | with_reducible refine Rd.notT ?_ | with_reducible refine Rx.raiseH ?_ | with_reducible refine Rx.callS ?_ | with_reducible refine Rx.xvH ?_ | with_reducible refine Rx.rng3 ?_
  | with_reducible refine L2.iteT ?_ | with_reducible refine L2.iteF ?_
  | with_reducible refine Rd.iteb ?_ | with_reducible refine Rd.iten ?_ | with_reducible refine Rd.itbn ?_))

local macro_rules | `(tactic| walk_at "yes") => `(tactic| (refine (if_pos (by first | assumption | omega)).mpr ?_))
local macro_rules | `(tactic| walk_at "no") => `(tactic| (refine (if_neg (by first | assumption | omega)).mpr ?_))

local macro_rules | `(tactic| k_extra "ne") => `(tactic| first
  | with_reducible assumption | with_reducible exact Ne.symm (by with_reducible assumption) | with_reducible exact Rd.ntT (by with_reducible assumption) (by k_extra "tape")
  | with_reducible exact Rd.neN (by with_reducible assumption) (by k_extra "at") | with_reducible exact Rd.neN' (by with_reducible assumption) (by k_extra "at"))
local macro_rules | `(tactic| k_extra "tape") => `(tactic| first
  | with_reducible assumption | with_reducible exact Rd.tape_same (by with_reducible assumption) (by k_extra "tape"))
local macro_rules | `(tactic| k_extra "at") => `(tactic| first
  | with_reducible assumption
  | with_reducible exact Rd.at_same (by with_reducible assumption) (by k_extra "at")
  | with_reducible exact Rd.at_off (by with_reducible assumption) (by k_extra "ne") (by k_extra "at")
  | with_reducible exact Rd.at_but (by with_reducible assumption) (by k_extra "ne") (by k_extra "at"))
local macro_rules | `(tactic| k_extra "bk") => `(tactic| first
  | with_reducible assumption
  | with_reducible exact Rd.book_same (by with_reducible assumption) (by k_extra "bk")
  | with_reducible exact Rd.book_but (by with_reducible assumption) (by k_extra "tape") (by k_extra "bk"))
local macro_rules | `(tactic| k_extra "sqL") => `(tactic| first
  | with_reducible assumption | with_reducible exact L2.Same.seq (by with_reducible assumption) (by k_extra "sqL"))
local macro_rules | `(tactic| k_extra "sqT") => `(tactic| first
  | with_reducible assumption | with_reducible exact Ru.same_tup (by with_reducible assumption) (by k_extra "sqT"))
local macro_rules | `(tactic| k_extra "sq") => `(tactic| first
  | with_reducible assumption | (with_reducible show L2.SqL _ _ _ _; first | exact L2.SqL.of (by k_extra "at") | k_extra "sqL") | (with_reducible show L2.SqT _ _ _ _; first | exact L2.SqT.of (by k_extra "at") | k_extra "sqT"))
local macro_rules | `(tactic| k_extra "row") => `(tactic| first
  | with_reducible assumption | exact Or.inl (L2.SqL.of (by k_extra "at")) | exact Or.inr (L2.SqT.of (by k_extra "at")) | exact Or.inl (by k_extra "sqL") | exact Or.inr (by k_extra "sqT"))
local macro_rules | `(tactic| k_extra "same") => `(tactic| first
  | with_reducible exact L2.Same.refl _ | with_reducible assumption
  | with_reducible exact Rd.same_tr (by with_reducible assumption) (by k_extra "same")
  | with_reducible exact Rd.same_of2 (by with_reducible assumption) (by with_reducible assumption) (by k_extra "same"))
local macro_rules | `(tactic| k_extra "but") => `(tactic| first
  | with_reducible exact Rd.But.refl _ _ | with_reducible assumption
  | with_reducible exact Rd.but_tr (by with_reducible assumption) (by k_extra "but")
  | with_reducible exact Rd.but_sm (by with_reducible assumption) (by k_extra "but")
  | with_reducible exact Rd.but_of2 (by with_reducible assumption) (by with_reducible assumption) (by k_extra "but"))
local macro_rules | `(tactic| k_extra "sz") => `(tactic| first
  | with_reducible assumption | with_reducible exact Lt.Wd.line (by with_reducible assumption) (by decide) | (rw [PySem.sizeLine_eq]; omega)
  | (simp only [List.length_map, List.length_append, List.length_cons, List.length_nil, List.length_take] <;> rw [PySem.sizeLine_eq] <;> omega) | exact Nat.le_of_ble_eq_true rfl)
local macro_rules | `(tactic| k_extra "go1") => `(tactic| first
  | (with_reducible show Rd.nLenS _ _ _; refine Rd.lenStr (by k_extra "sz") ?_)
  | (with_reducible show Rd.nLen _ _ _ _; first | refine Rd.lenS (by k_extra "row") ?_ | refine Rd.lenI (by k_extra "row") ?_ | refine Rd.lenR (by k_extra "row") ?_)
  | (with_reducible show L2.rSlS _ _ _ _ _; refine Rd.slS (by k_extra "sz") ?_)
  | (with_reducible show L2.tyV _ "list" _ _ ∧ _; refine Rd.tyL (by k_extra "sq") ?_)
  | (with_reducible show Rd.nAddS _ _ _ _; refine Rd.addS (by k_extra "sz") ?_)
  | (with_reducible show L2.rIsi _ _ _ _; first | with_reducible refine Rd.isiStr ?_ | with_reducible refine Rd.isiB ?_ | with_reducible refine Rd.isiI ?_ | with_reducible refine Rd.isiIB ?_ | (first | with_reducible refine Rx.askInt (by with_reducible assumption) ?_ | with_reducible refine Rx.askBl (by with_reducible assumption) ?_ | with_reducible refine Rx.askStr (by with_reducible assumption) ?_ | with_reducible refine Rx.askLst (by with_reducible assumption) ?_ | with_reducible refine Rx.askTup (by with_reducible assumption) ?_ | with_reducible refine Rx.askDct (by with_reducible assumption) ?_))
  | (with_reducible show L2.rIn _ _ _ _ _ _; first | refine Rd.inStrsY (by k_extra "row") ?_ | refine Rd.inStrsN (by k_extra "row") ?_ | refine Rd.inIntsY (by k_extra "row") ?_ | refine Rd.inIntsN (by k_extra "row") ?_)
  | with_reducible refine And.intro (Eq.refl L2.V.non) ?_ | with_reducible refine Rd.ifN ?_ | with_reducible refine Rd.ifR ?_ | with_reducible refine Rd.ifI ?_ | with_reducible refine Rd.ifT ?_)
local macro_rules | `(tactic| walk_at "go") => `(tactic| (walk_at "rd"; repeat (k_extra "go1"; walk_at "rd")))
local macro_rules | `(tactic| walk_at "ifs") => `(tactic| (walk_at "go"; repeat (first | (refine Rd.no (by decide) ?_; walk_at "go") | (refine Rd.yes (by decide) ?_; walk_at "go"))))

namespace W
open PySem PySem.Spec PyProof.Rows L2
section
variable {P : Program} {w : World} {K : PySem.W.Frag} {mg : Str → Option Value} {base : Heap}
/-! ### the tape: a list of the cells (never written) and four ints; what is drawn lies below the size -/
/-- a tape stands at t, its cells at c -/
def sp_l_tape (K : PySem.W.Frag) : Sp := fun vs H Q _ => ∃ (a : Addr) (ns : List Int), vs = [.ref a] ∧ SqL K H a (ns.map V.int) ∧ ∀ t c H', Tape H' t c → Same H H' → H t = none → H c = none → Q (.ref t) H'
def sp_l_pick (K : PySem.W.Frag) : Sp := fun vs H Q _ => ∃ (t c : Addr) (n : Int), vs = [.ref t, .int n] ∧ Tape H t c ∧ 0 < n ∧ n < 1073741824 ∧ ∀ r H', 0 ≤ r → r < n → Tape H' t c → Rd.But t H H' → Q (.int r) H'
theorem ok_l_tape (T : Txt K mg) : FnOk P w K mg base CX0 1 T.f_l_tape T.fd_l_tape ["_law_script"] (sp_l_tape K) := by
  refine T.F_l_tape.ok sc_l_tape (fun vs H Q E h => ?_) (fun cdv A outer s H vs Q E hr h => ?_)
  · obtain ⟨a, ns, rfl, _⟩ := h
    rfl
  · obtain ⟨a, ns, rfl, hS, k⟩ := h
    refine ⟨_, (pss_one (ps_ret (pe_lst (pa_cons (pe_callTy (T := "list") (r := Rd.nListOf K) Rd.c_listOf (by rfl) T.n_list (by decide +kernel) (pa_cons (pv 0) pa_nil)) (pa_cons pe_int (pa_cons pe_int (pa_cons pe_int (pa_cons pe_int pa_nil)))))))), ?_⟩
    walk_at "rd"
    refine Rd.listOf (.inl hS) (Rd.new fun c G hc gc s1 => ?_)
    walk_at "rd"
    refine ⟨Nat.le_of_ble_eq_true rfl, Rd.new fun t G2 ht gt s2 => ?_⟩
    have tc : c ≠ t := ne_of_none gc ht
    exact k t c _ ⟨ns, 0, 0, 1, 0, tc.symm, gt, s2 _ _ gc, by decide, by omega, by decide, by decide⟩ (s1.trans s2) (s1.free ht) hc
theorem ok_l_pick (T : Txt K mg) : FnOk P w K mg base CX0 1 T.f_l_pick T.fd_l_pick ["_law_tape_here", "_law_size"] (sp_l_pick K) := by
  refine T.F_l_pick.ok sc_l_pick (fun vs H Q E h => ?_) (fun cdv A outer s H vs Q E hr h => ?_)
  · obtain ⟨t, c, n, rfl, _⟩ := h
    rfl
  · obtain ⟨t, c, n, rfl, ⟨ns, x, y, z, u, tc, h1, h2, x0, x1, z0, z1⟩, n0, n1, k⟩ := h
    refine ⟨_, (pss_cons (ps_if (pt_cmpR op_gt (pe_ix (r := rIxL K) ix_list (pv 0) pe_int (fun _ _ => rfl)) pe_int (nomark _))
  (pss_cons (ps_set (i := 2) sc_l_pick.nd rfl (.inl rfl) (pe_op op_mod (pe_callTy (T := "int") (r := _) Rd.c_int (by rfl) T.n_int (by decide +kernel) (pa_cons (pe_ix (r := rIxL K) ix_list (pv 0) pe_int (fun _ _ => rfl)) pa_nil)) (pv 1)))
  (pss_cons (ps_asg (pe_op op_fdiv (pe_ix (r := rIxL K) ix_list (pv 0) pe_int (fun _ _ => rfl)) (pv 1)) (pg_sub (pv 0) pe_int set_list))
  (pss_one (ps_ret (pv 2)))))
  pss_nil)
  (pss_cons (ps_asg (pe_op op_add (pe_ix (r := rIxL K) ix_list (pv 0) pe_int (fun _ _ => rfl)) pe_int) (pg_sub (pv 0) pe_int set_list))
  (pss_cons (ps_set (i := 3) sc_l_pick.nd rfl (.inl rfl) pe_int)
  (C8.pss_cut (ps_if (pt_cmpR op_lt (pe_ix (r := rIxL K) ix_list (pv 0) pe_int (fun _ _ => rfl)) (pe_callB (id := "len") (r := Rd.nLen K) Rd.c_len (by rfl) T.n_len (by decide +kernel) (pa_cons (pe_ix ix_list (pv 0) pe_int (fun _ _ => rfl)) pa_nil)) (nomark _))
  (pss_cons (ps_set (i := 3) sc_l_pick.nd rfl (.inl rfl) (pe_ix (r := rIxL K) ix_list (pe_ix ix_list (pv 0) pe_int (fun _ _ => rfl)) (pe_ix (r := rIxL K) ix_list (pv 0) pe_int (fun _ _ => rfl)) (fun _ _ => rfl)))
  (pss_one (ps_asg (pe_op op_add (pe_ix (r := rIxL K) ix_list (pv 0) pe_int (fun _ _ => rfl)) pe_int) (pg_sub (pv 0) pe_int set_list))))
  pss_nil)
  (pss_cons (ps_if (pt_cmpR op_ge (pv 3) (pe_op op_pow pe_int pe_int) (nomark _))
  (pss_cons (ps_asg (pe_op op_fdiv (pv 3) (pv 1)) (pg_sub (pv 0) pe_int set_list))
  (pss_one (ps_ret (pe_op op_mod (pe_callTy (T := "int") (r := _) Rd.c_int (by rfl) T.n_int (by decide +kernel) (pa_cons (pv 3) pa_nil)) (pv 1)))))
  pss_nil)
  (pss_cons (ps_set (i := 4) sc_l_pick.nd rfl (.inl rfl) (pe_op op_mod (pe_callTy (T := "int") (r := _) Rd.c_int (by rfl) T.n_int (by decide +kernel) (pa_cons (pe_op op_add (pe_op op_add (pe_op op_mul (pe_ix (r := rIxL K) ix_list (pv 0) pe_int (fun _ _ => rfl)) pe_int) (pe_op op_mod (pe_callTy (T := "int") (r := _) Rd.c_int (by rfl) T.n_int (by decide +kernel) (pa_cons (pv 3) pa_nil)) pe_int)) (pe_op op_mul (pe_ix (r := rIxL K) ix_list (pv 0) pe_int (fun _ _ => rfl)) pe_int)) pa_nil)) pe_int))
  (pss_cons (ps_set (i := 4) sc_l_pick.nd rfl (.inl rfl) (pe_op op_mod (pe_callTy (T := "int") (r := _) Rd.c_int (by rfl) T.n_int (by decide +kernel) (pa_cons (pe_op op_mul (pv 4) (pe_op op_add (pe_op op_fdiv (pv 4) pe_int) pe_int)) pa_nil)) pe_int))
  (pss_cons (ps_asg (pv 4) (pg_sub (pv 0) pe_int set_list))
  (pss_one (ps_ret (pe_op op_mod (pe_callTy (T := "int") (r := _) Rd.c_int (by rfl) T.n_int (by decide +kernel) (pa_cons (pe_op op_fdiv (pv 4) pe_int) pa_nil)) (pv 1)))))))))))), ?_⟩
    walk_at "rd"
    refine Rd.ixL (.of h1) (atI_nat (j := 2) rfl) ?_
    walk_at "rd"
    refine ite2 (fun q => ?_) (fun q => ?_)
    · walk_at "rd"
      refine Rd.ixL (.of h1) (atI_nat (j := 2) rfl) ?_
      walk_at "rd"
      refine Rd.iC n0 ?_
      walk_at "rd"
      refine Rd.ixL (.of h1) (atI_nat (j := 2) rfl) ?_
      walk_at "rd"
      refine Rd.iC ⟨n0, n1⟩ ?_
      walk_at "rd"
      refine Rd.setG h1 (show ixN 5 2 = some 2 by decide) rfl fun G g1 gb => ?_
      walk_at "rd"
      exact k _ _ (Int.emod_nonneg _ (by omega)) (Int.emod_lt_of_pos _ n0) ⟨ns, x, _, z, u, tc, g1, by rw [gb _ tc.symm]; exact h2, x0, x1, z0, z1⟩ (fun b o hb e => by rw [gb b hb]; exact e)
    · walk_at "rd"
      refine Rd.ixL (.of h1) (atI_nat (j := 4) rfl) ?_
      walk_at "rd"
      refine Rd.setG h1 (show ixN 5 4 = some 4 by decide) rfl fun G g1 gb => ?_
      have g2 : G c = some (.lst (ns.map V.int)) := by rw [gb _ tc.symm]; exact h2
      walk_at "rd"
      -- the cell m is read (or 0)
      refine Rd.cut (fun σ G' => ∃ x' m : Int, σ = [some (.ref t), some (.int n), none, some (.int m), none] ∧ 0 ≤ x' ∧ x' ≤ ns.length ∧ G' t = some (.lst [.ref c, .int x', .int y, .int z, .int (u + 1)]) ∧ (∀ b, b ≠ t → G' b = H b)) ?_ ?_
      · walk_at "rd"
        refine Rd.ixL (.of g1) (atI_nat (j := 1) rfl) ?_
        walk_at "rd"
        refine Rd.ixL (.of g1) (atI_nat (j := 0) rfl) ?_
        walk_at "rd"
        refine Rd.len (.inl (.of g2)) ?_
        rw [List.length_map]
        walk_at "rd"
        refine ite2 (fun q2 => ?_) (fun q2 => ?_)
        · walk_at "rd"
          refine Rd.ixL (.of g1) (atI_nat (j := 0) rfl) ?_
          walk_at "rd"
          refine Rd.ixL (.of g1) (atI_nat (j := 1) rfl) ?_
          have hx : x.toNat < ns.length := by omega
          refine Rd.ixL (.of g2) (Rd.atI_of x0 (Rd.map_int hx)) ?_
          walk_at "rd"
          refine Rd.ixL (.of g1) (atI_nat (j := 1) rfl) ?_
          walk_at "rd"
          refine Rd.setG g1 (show ixN 5 1 = some 1 by decide) rfl fun G2 k1 kb => ?_
          walk_at "rd"
          exact ⟨x + 1, _, rfl, by omega, by omega, k1, fun b hb => (kb b hb).trans (gb b hb)⟩
        · walk_at "rd"
          exact ⟨x, 0, rfl, x0, x1, g1, gb⟩
      · rintro _ G' ⟨x', m, rfl, x'0, x'1, e1, eb⟩
        have e2 : G' c = some (.lst (ns.map V.int)) := by rw [eb _ tc.symm]; exact h2
        walk_at "rd"
        refine Rd.iC ⟨by decide, by decide, by decide⟩ ?_
        walk_at "rd"
        refine ite2 (fun q2 => ?_) (fun q2 => ?_)
        · walk_at "rd"
          refine Rd.iC ⟨n0, n1⟩ ?_
          walk_at "rd"
          refine Rd.setG e1 (show ixN 5 2 = some 2 by decide) rfl fun G2 k1 kb => ?_
          walk_at "rd"
          refine Rd.iC n0 ?_
          walk_at "rd"
          exact k _ _ (Int.emod_nonneg _ (by omega)) (Int.emod_lt_of_pos _ n0) ⟨ns, x', _, z, u + 1, tc, k1, by rw [kb _ tc.symm]; exact e2, x'0, x'1, z0, z1⟩ (fun b o hb e => by rw [kb b hb, eb b hb]; exact e)
        · walk_at "rd"
          refine Rd.ixL (.of e1) (atI_nat (j := 3) rfl) ?_
          walk_at "rd"
          refine Rd.iC (.inr (by decide)) ?_
          walk_at "rd"
          refine Rd.iC (by decide) ?_
          walk_at "rd"
          refine Rd.ixL (.of e1) (atI_nat (j := 4) rfl) ?_
          walk_at "rd"
          refine Rd.iC (.inr (by decide)) ?_
          walk_at "rd"
          refine Rd.iC (by decide) ?_
          generalize hM : (z * 48271 + m % 2147483629 + (u + 1) * 69621) % 2147483647 = M
          have M0 : 0 ≤ M := by rw [← hM]; exact Int.emod_nonneg _ (by decide)
          have M1 : M < 2147483647 := by rw [← hM]; exact Int.emod_lt_of_pos _ (by decide)
          walk_at "rd"
          refine Rd.iC ⟨by decide, by decide⟩ ?_
          walk_at "rd"
          refine Rd.iC (.inl ⟨by omega, by omega⟩) ?_
          walk_at "rd"
          refine Rd.iC (by decide) ?_
          generalize hN : M * (M / 1009 + 40692) % 2147483399 = N
          have N0 : 0 ≤ N := by rw [← hN]; exact Int.emod_nonneg _ (by decide)
          have N1 : N < 2147483399 := by rw [← hN]; exact Int.emod_lt_of_pos _ (by decide)
          walk_at "rd"
          refine Rd.setG e1 (show ixN 5 3 = some 3 by decide) rfl fun G2 k1 kb => ?_
          walk_at "rd"
          refine Rd.iC ⟨by decide, by decide⟩ ?_
          walk_at "rd"
          refine Rd.iC n0 ?_
          walk_at "rd"
          exact k _ _ (Int.emod_nonneg _ (by omega)) (Int.emod_lt_of_pos _ n0) ⟨ns, x', y, N, u + 1, tc, k1, by rw [kb _ tc.symm]; exact e2, x'0, x'1, N0, by omega⟩ (fun b o hb e => by rw [kb b hb, eb b hb]; exact e)
theorem pickR {K : PySem.W.Frag} {H : Hp} {t c : Addr} {n : Int} {Q : VK} {E : XK} (T : Tape H t c) (h0 : 0 < n) (h1 : n < 1073741824) (k : ∀ r H', 0 ≤ r → r < n → Tape H' t c → Rd.But t H H' → Q (.int r) H') : sp_l_pick K [.ref t, .int n] H Q E := ⟨t, c, n, rfl, T, h0, h1, k⟩
/-! ### what stays when only the tape is written -/
theorem but_L {K : PySem.W.Frag} {H H' : Hp} {t a : Addr} {xs : List V} (e : Rd.But t H H') (n : a ≠ t) (h : SqL K H a xs) : SqL K H' a xs := by
  rcases h with (h | ⟨o, h⟩) | h
  · exact .inl (.inl (e _ _ n h))
  · exact .inl (.inr ⟨o, e _ _ n h⟩)
  · exact .inr h
theorem but_T {K : PySem.W.Frag} {H H' : Hp} {t a : Addr} {xs : List V} (e : Rd.But t H H') (n : a ≠ t) (h : SqT K H a xs) : SqT K H' a xs := by
  rcases h with (h | ⟨o, h⟩) | h
  · exact .inl (.inl (e _ _ n h))
  · exact .inl (.inr ⟨o, e _ _ n h⟩)
  · exact .inr h
theorem but_R {K : PySem.W.Frag} {H H' : Hp} {t a : Addr} {xs : List V} (e : Rd.But t H H') (n : a ≠ t) (h : Ru.SqR K H a xs) : Ru.SqR K H' a xs := h.imp (but_L e n) (but_T e n)

end
end W

namespace W
open PySem PySem.Spec PyProof.Rows L2
section
variable {P : Program} {w : World} {K : PySem.W.Frag} {mg : Str → Option Value} {base : Heap}
/-! ### is_integer of anything -/
def sp_is_integer (K : PySem.W.Frag) : Sp := fun vs H Q _ => ∃ (x : V) (k : Rx.Kd), vs = [x] ∧ Rx.Is H x k ∧ Q (.bl k.isNum) H
theorem ok_is_integer (T : Txt K mg) : FnOk P w K mg base CX0 1 T.f_is_integer T.fd_is_integer ["value"] (sp_is_integer K) := by
  refine T.F_is_integer.ok sc_is_integer (fun vs H Q E h => ?_) (fun cdv A outer s H vs Q E hr h => ?_)
  · obtain ⟨x, kd, rfl, _⟩ := h
    rfl
  · obtain ⟨x, kd, rfl, hx, k⟩ := h
    refine ⟨_, (pss_one (ps_ret (pe_and (pe_callB (id := "isinstance") (r := rIsi K) call_isi (by rfl) T.n_isinstance (by decide +kernel) (pa_cons (pv 0) (pa_cons (pe_bltn (v := .ty "int") (u := .type "int") (by rfl) T.n_int (by decide +kernel) rfl) pa_nil))) (pe_one (pe_not (pe_callB (id := "isinstance") (r := rIsi K) call_isi (by rfl) T.n_isinstance (by decide +kernel) (pa_cons (pv 0) (pa_cons (pe_bltn (v := .ty "bool") (u := .type "bool") (by rfl) T.n_bool (by decide +kernel) rfl) pa_nil)))))))), ?_⟩
    walk_at "go"
    cases hx <;> first | (refine Rd.no Bool.false_ne_true ?_; exact k) | (refine Rd.yes rfl ?_; walk_at "go"; exact k)
theorem intI {H : Hp} {i : Int} {Q : VK} {E : XK} (q : Q (.bl true) H) : sp_is_integer K [.int i] H Q E := ⟨_, _, rfl, .int i, q⟩

end
end W

namespace W
open PySem PySem.Spec PyProof.Rows L2
section
variable {P : Program} {w : World} {K : PySem.W.Frag} {mg : Str → Option Value} {base : Heap}
/-! ### words and watches of letters -/
def sp_is_letters (K : PySem.W.Frag) : Sp := fun vs H Q _ => ∃ z : Str, vs = [.str z] ∧ Lt.Let z ∧ z.length ≤ 1000000 ∧ ∀ H', Same H H' → Q (.bl true) H'
def sp_is_word (K : PySem.W.Frag) : Sp := fun vs H Q _ => ∃ z : Str, vs = [.str z] ∧ Lt.Wd 40 z ∧ ∀ H', Same H H' → Q (.bl true) H'
def sp_is_watch (K : PySem.W.Frag) : Sp := fun vs H Q _ => ∃ z : Str, vs = [.str z] ∧ Lt.Wd 12 z ∧ ∀ H', Same H H' → Q (.bl true) H'
theorem ok_is_letters (T : Txt K mg) : FnOk P w K mg base CX0 1 T.f_is_letters T.fd_is_letters ["value"] (sp_is_letters K) := by
  refine T.F_is_letters.ok sc_is_letters (fun vs H Q E h => ?_) (fun cdv A outer s H vs Q E hr h => ?_)
  · obtain ⟨z, rfl, _⟩ := h
    rfl
  · obtain ⟨z, rfl, hz, hl, k⟩ := h
    refine ⟨_, (pss_one (ps_ret (pe_and (pe_callB (id := "isinstance") (r := rIsi K) call_isi (by rfl) T.n_isinstance (by decide +kernel) (pa_cons (pv 0) (pa_cons (pe_bltn (v := .ty "str") (u := .type "str") (by rfl) T.n_str (by decide +kernel) rfl) pa_nil))) (pe_one (pe_callB (id := "all") (r := rAll K) (cr_all rfl) (by rfl) T.n_all (by decide +kernel) (pa_cons (pe_lc (own := [("letter", 1)]) (g := gName 1) (tt := tYes) rfl sc_is_letters.nd (pi_str (pv 0)) (blkOk_by (own := [("letter", 1)]) (N := ["value", "letter"]) (sc := defScope s_is_letters) (by decide +kernel)) (fun _ _ _ _ _ => (pg_name (i := 1) sc_is_letters.nd rfl (.inl rfl))) (fun _ _ _ _ _ => pts_nil) (fun _ _ _ _ _ => (pe_cmpR Rd.o_inC (pv 1) (pe_glob (v := .str "abcdefghijklmnopqrstuvwxyz") rfl T.m_LETTERS ⟨_, rfl⟩) rfl))) pa_nil)))))), ?_⟩
    walk_at "rd"
    refine Rd.isiStr ?_
    walk_at "rd"
    refine Rd.lcS walk_str (fun _ _ => trivial) (fun _ i acc _ => acc = (List.replicate i true).map V.bl) (fun _ _ _ _ _ => rfl) ?_ ?_
    · rintro D i x G _ acc nD hi hD sm rfl ⟨rfl, c, hc, rfl⟩
      walk_at "rd"
      refine ⟨rfl, Rd.tyes ?_⟩
      walk_at "rd"
      have hc2 : c ∈ Lt.Abc.cps.toList := hz.char (i := i) (by simpa using hc)
      refine Rd.inCT hc2 ?_
      have hi2 : i < z.length := hi
      refine Rd.lcPush hD nD sm (by rw [List.length_map, List.length_replicate, sizeLine_eq]; omega) fun G _ _ => ?_
      rw [List.replicate_succ', List.map_append]
      rfl
    · rintro D acc G nD hD sm rfl
      refine Rd.all (.of hD) ?_
      rw [show (List.replicate z.cps.size true).all id = true by simp]
      exact k _ sm
theorem ok_is_word (T : Txt K mg) : FnOk P w K mg base CX0 2 T.f_is_word T.fd_is_word ["thing"] (sp_is_word K) := by
  refine T.F_is_word.ok sc_is_word (fun vs H Q E h => ?_) (fun cdv A outer s H vs Q E hr h => ?_)
  · obtain ⟨z, rfl, _⟩ := h
    rfl
  · obtain ⟨z, rfl, hz, k⟩ := h
    refine ⟨_, (pss_one (ps_ret (pe_and (pe_call (ok_is_letters T) (hr.mono (by decide)) rfl T.g_is_letters T.F_is_letters.kp T.b_is_letters .nil pass0 (pa_cons (pv 0) pa_nil)) (pe_one (pe_chain op_le op_le pe_int (pe_callB (id := "len") (r := _) Rd.c_lenS (by rfl) T.n_len (by decide +kernel) (pa_cons (pv 0) pa_nil)) (pe_glob (v := .int 40) rfl T.m_MOST_WORD ⟨_, rfl⟩)))))), ?_⟩
    have h0 := hz.l0
    have h1 := hz.l1
    walk_at "rd"
    refine ⟨z, rfl, hz.ok, by omega, fun H1 s1 => ?_⟩
    walk_at "rd"
    refine Rd.lenStr (hz.line (by decide)) ?_
    walk_at "rd"
    walk_at "yes"
    walk_at "rd"
    rw [decide_eq_true (by omega)]
    exact k _ s1
theorem ok_is_watch (T : Txt K mg) : FnOk P w K mg base CX0 2 T.f_is_watch T.fd_is_watch ["thing"] (sp_is_watch K) := by
  refine T.F_is_watch.ok sc_is_watch (fun vs H Q E h => ?_) (fun cdv A outer s H vs Q E hr h => ?_)
  · obtain ⟨z, rfl, _⟩ := h
    rfl
  · obtain ⟨z, rfl, hz, k⟩ := h
    refine ⟨_, (pss_one (ps_ret (pe_and (pe_call (ok_is_letters T) (hr.mono (by decide)) rfl T.g_is_letters T.F_is_letters.kp T.b_is_letters .nil pass0 (pa_cons (pv 0) pa_nil)) (pe_one (pe_chain op_le op_le pe_int (pe_callB (id := "len") (r := _) Rd.c_lenS (by rfl) T.n_len (by decide +kernel) (pa_cons (pv 0) pa_nil)) (pe_glob (v := .int 12) rfl T.m_MOST_WATCH ⟨_, rfl⟩)))))), ?_⟩
    have h0 := hz.l0
    have h1 := hz.l1
    walk_at "rd"
    refine ⟨z, rfl, hz.ok, by omega, fun H1 s1 => ?_⟩
    walk_at "rd"
    refine Rd.lenStr (hz.line (by decide)) ?_
    walk_at "rd"
    walk_at "yes"
    walk_at "rd"
    rw [decide_eq_true (by omega)]
    exact k _ s1

end
end W

namespace W
open PySem PySem.Spec PyProof.Rows L2
section
variable {P : Program} {w : World} {K : PySem.W.Frag} {mg : Str → Option Value} {base : Heap}
def sp_check_word (K : PySem.W.Frag) : Sp := fun vs H Q _ => ∃ z : Str, vs = [.str z] ∧ Lt.Wd 40 z ∧ ∀ H', Same H H' → Q (.str z) H'
theorem ok_check_word (T : Txt K mg) : FnOk P w K mg base CX0 4 T.f_check_word T.fd_check_word ["word"] (sp_check_word K) := by
  refine T.F_check_word.ok sc_check_word (fun vs H Q E h => ?_) (fun cdv A outer s H vs Q E hr h => ?_)
  · obtain ⟨z, rfl, _⟩ := h
    rfl
  · obtain ⟨z, rfl, hz, k⟩ := h
    refine ⟨_, (pss_cons (ps_if (pt_not (pt_val (pe_call (ok_is_word T) (hr.mono (by decide)) rfl T.g_is_word T.F_is_word.kp T.b_is_word .nil pass0 (pa_cons (pv 0) pa_nil))))
  (pss_one ps_never)
  pss_nil)
  (pss_one (ps_ret (pv 0)))), ?_⟩
    walk_at "rd"
    refine ⟨z, rfl, hz, fun H1 s1 => ?_⟩
    walk_at "rd"
    exact k _ s1

end
end W

namespace W
open PySem PySem.Spec PyProof.Rows L2
section
variable {P : Program} {w : World} {K : PySem.W.Frag} {mg : Str → Option Value} {base : Heap}
/-! ### books -/
def sp_Book_init (K : PySem.W.Frag) (C : Addr) : Sp := fun vs H Q _ => ∃ (b a : Addr) (ws : List Str), vs = [.ref b, .ref a] ∧ (∃ dx, H b = some (.ins C dx [])) ∧ Ru.SqR K H a (ws.map V.str) ∧ Watches ws ∧ ∀ H', BookAt C H' b ws → Rd.But b H H' → Q .non H'
def sp_check_book (K : PySem.W.Frag) (C : Addr) : Sp := fun vs H Q _ => ∃ (b : Addr) (ws : List Str), vs = [.ref b] ∧ BookAt C H b ws ∧ Q (.ref b) H
theorem ok_Book_init (T : Txt K mg) : FnOk P w K mg base CX0 4 T.f_Book_init T.fd_Book_init ["self", "watches"] (sp_Book_init K T.C_Book) := by
  refine T.F_Book_init.ok sc_Book_init (fun vs H Q E h => ?_) (fun cdv A outer s H vs Q E hr h => ?_)
  · obtain ⟨b, a, ws, rfl, _⟩ := h
    rfl
  · obtain ⟨b, a, ws, rfl, ⟨dx, hb⟩, hS, L, k⟩ := h
    refine ⟨_, (pss_cons (ps_if (PW.pt (pw_or (pt_not (pt_val (pe_callB (id := "isinstance") (r := rIsiT K) call_isiT (by rfl) T.n_isinstance (by decide +kernel) (pa_cons (pv 1) (pa_cons (pe_tup (pa_cons (pe_bltn (v := .ty "list") (u := .type "list") (by rfl) T.n_list (by decide +kernel) rfl) (pa_cons (pe_bltn (v := .ty "tuple") (u := .type "tuple") (by rfl) T.n_tuple (by decide +kernel) rfl) pa_nil))) pa_nil))))) (pw_or1 (pt_cmpR op_gt (pe_callB (id := "len") (r := Rd.nLen K) Rd.c_len (by rfl) T.n_len (by decide +kernel) (pa_cons (pv 1) pa_nil)) (pe_glob (v := .int 12) rfl T.m_MOST_WATCHES ⟨_, rfl⟩) (nomark _)))))
  (pss_one ps_never)
  pss_nil)
  (pss_cons (ps_set (i := 2) sc_Book_init.nd rfl (.inl rfl) (pe_lst pa_nil))
  (pss_cons (ps_for PassesOwn.never rfl (Ru.pi_or (pi_enum (by rfl) T.n_enumerate (pa_cons (pv 1) pa_nil)) (Ru.pi_enumT (by rfl) T.n_enumerate (pa_cons (pv 1) pa_nil))) (pg_tup rfl (pgs_cons (pg_name (i := 3) sc_Book_init.nd rfl (.inl rfl)) (pgs_cons (pg_name (i := 4) sc_Book_init.nd rfl (.inl rfl)) pgs_nil)))
  (pss_cons (ps_if (PW.pt (pw_or (pt_not (pt_val (pe_call (ok_is_watch T) (hr.mono (by decide)) rfl T.g_is_watch T.F_is_watch.kp T.b_is_watch .nil pass0 (pa_cons (pv 4) pa_nil)))) (pw_or1 (pt_cmpR (r := rIn K false) op_in_seq (pv 4) (pv 2) (by rfl)))))
  (pss_one ps_never)
  pss_nil)
  (pss_one (ps_expr (pe_bm PySem.F.plainAttrs_list PySem.F.slot_list_append PySem.F.type_list_append mt_append (pv 2) (pa_cons (pv 4) pa_nil))))))
  (pss_one (ps_fld (pv 0) (pe_callTy (T := "tuple") (r := Rd.nTupOf K) Rd.c_tupOf (by rfl) T.n_tuple (by decide +kernel) (pa_cons (pv 2) pa_nil)) rfl))))), ?_⟩
    have l1 := L.l1
    walk_at "rd"
    refine ⟨Nat.le_of_ble_eq_true rfl, Rd.new fun p G hp gp sG => ?_⟩
    walk_at "rd"
    refine Ru.isRow (hS.same sG) gp ?_
    walk_at "rd"
    refine Rd.len (hS.same sG) ?_
    rw [List.length_map]
    walk_at "rd"
    walk_at "no"
    walk_at "rd"
    refine ⟨Nat.zero_le _, Rd.new fun f G2 nf gf s2 => ?_⟩
    walk_at "rd"
    refine Ru.for_enumR (a := a) (xs := ws.map V.str) (fun Q q => ?_) (fun i σ H' => ∃ x y, σ = [some (.ref b), some (.ref a), some (.ref f), x, y] ∧ H' f = some (.lst ((ws.take i).map V.str)) ∧ Same G H') (hS.same sG) ⟨_, _, rfl, gf, s2⟩ (fun i σ H' _ ⟨_, _, _, _, z⟩ => z) ?_ ?_
    · walk_at "rd"
      exact q
    · rintro i x _ H' t hx ⟨_, _, rfl, hf, sm⟩ hT
      obtain ⟨z, hz, rfl⟩ := Rd.map_strG hx
      have sT := Rd.same_upd (o := .tup [.int (i : Nat), .str z]) hT
      refine Rd.tupT (.of upd_same) rfl ?_
      walk_at "rd"
      refine ⟨z, rfl, L.ok z (List.mem_of_getElem? hz), fun H1 s1 => ?_⟩
      have hf1 := s1 _ _ (sT _ _ hf)
      walk_at "rd"
      refine Rd.inStrsY (.inl (.of hf1)) ?_
      rw [decide_eq_false (Rd.nodup_take L.nd hz)]
      walk_at "rd"
      refine Rd.tyL (.of hf1) ?_
      walk_at "rd"
      refine Rd.app hf1 (by rw [List.length_map, List.length_take, sizeLine_eq]; omega) fun G3 g3 off3 => ?_
      walk_at "rd"
      refine ⟨_, _, rfl, ?_, fun c o e => ?_⟩
      · rw [Rd.take_snoc hz, List.map_append]
        exact g3
      · rw [off3 c (ne_of_none e nf)]
        exact s1 _ _ (sT _ _ (sm _ _ e))
    · rintro _ H' ⟨_, _, rfl, hf, sm⟩
      rw [List.length_map, List.take_length] at hf
      walk_at "rd"
      refine Rd.tupOf (.of hf) (Rd.new fun t G3 nt gt s3 => ?_)
      walk_at "rd"
      have hb3 := s3 _ _ (sm _ _ (sG _ _ hb))
      refine Rd.sfld hb3 T.cl_Book T.na_Book_watches (by decide) rfl fun G4 g4 off4 => ?_
      walk_at "rd"
      refine k _ ⟨dx, t, g4, ?_⟩ fun c o n e => ?_
      · rw [off4 t (ne_of gt hb3 (fun e => nomatch e))]
        exact gt
      · rw [off4 c n]
        exact s3 _ _ (sm _ _ (sG _ _ e))
theorem ok_check_book (T : Txt K mg) : FnOk P w K mg base CX0 4 T.f_check_book T.fd_check_book ["book"] (sp_check_book K T.C_Book) := by
  refine T.F_check_book.ok sc_check_book (fun vs H Q E h => ?_) (fun cdv A outer s H vs Q E hr h => ?_)
  · obtain ⟨b, ws, rfl, _⟩ := h
    rfl
  · obtain ⟨b, ws, rfl, ⟨dx, t, hb, ht⟩, k⟩ := h
    refine ⟨_, (pss_cons (ps_if (pt_not (pt_val (pe_callB (id := "isinstance") (r := rIsi K) call_isi (by rfl) T.n_isinstance (by decide +kernel) (pa_cons (pv 0) (pa_cons (pe_glob (v := .ref T.C_Book) rfl T.c_Book rfl) pa_nil)))))
  (pss_one ps_never)
  pss_nil)
  (pss_one (ps_ret (pv 0)))), ?_⟩
    walk_at "rd"
    refine isiOwn T.cl_Book T.ty_Book hb ?_
    walk_at "rd"
    exact k
theorem watch_sm {ws : List Str} (L : Watches ws) : ∀ W ∈ ws, 1 ≤ W.length ∧ W.length ≤ 1000 := fun W m => ⟨(L.ok W m).l0, by have := (L.ok W m).l1; omega⟩

end
end W

namespace W
open PySem PySem.Spec PyProof.Rows L2
section
variable {P : Program} {w : World} {K : PySem.W.Frag} {mg : Str → Option Value} {base : Heap}
/-! ### the roads of a word: lists of spots -/
def Links (K : PySem.W.Frag) (H : Hp) (p : Addr) (n : Nat) (A : Nat → Nat → Prop) : Prop := ∃ rs : List Addr, SqL K H p (rs.map V.ref) ∧ rs.length = n + 1 ∧ ∀ i r, rs[i]? = some r → ∃ ms : List Int, SqL K H r (ms.map V.int) ∧ (ms.Pairwise (· ≤ ·) ∧ ms.length ≤ 1000000) ∧ ∀ x, x ∈ ms ↔ ∃ j : Nat, x = j ∧ A i j
theorem Links.same {K : PySem.W.Frag} {H H' : Hp} {p : Addr} {n : Nat} {A : Nat → Nat → Prop} (h : Links K H p n A) (s : Same H H') : Links K H' p n A := by
  obtain ⟨rs, h1, h2, h3⟩ := h
  exact ⟨rs, s.seq h1, h2, fun i r e => let ⟨ms, k1, k2⟩ := h3 i r e; ⟨ms, s.seq k1, k2⟩⟩
def Rows (H : Hp) (rs : List Addr) (F : Nat → List Int) : Prop := rs.Nodup ∧ ∀ (i : Nat) r, rs[i]? = some r → H r = some (.lst ((F i).map V.int))
theorem Rows.put {H G : Hp} {rs : List Addr} {F : Nat → List Int} (h : Rows H rs F) {i : Nat} {r : Addr} {x : Int} (hi : rs[i]? = some r) (g : G r = some (.lst ((F i).map V.int ++ [.int x]))) (off : ∀ b, b ≠ r → G b = H b) : Rows G rs (fun j => if j = i then F i ++ [x] else F j) := by
  refine ⟨h.1, fun j q hj => ?_⟩
  by_cases c : j = i
  · subst c
    rw [hi] at hj
    cases hj
    show G r = some (.lst ((if j = j then F j ++ [x] else F j).map V.int))
    rw [if_pos rfl, List.map_append]
    exact g
  · have n : q ≠ r := fun e => by
      subst e
      exact c ((List.getElem?_inj (List.getElem?_eq_some_iff.mp hj).1 h.1).mp (hj.trans hi.symm))
    show G q = some (.lst ((if j = i then F i ++ [x] else F j).map V.int))
    rw [if_neg c, off q n]
    exact h.2 j q hj
/-- .. each neighbour once, ascending -/
def LinksN (K : PySem.W.Frag) (H0 H : Hp) (p : Addr) (n : Nat) (A : Nat → Nat → Prop) : Prop := ∃ rs : List Addr, SqL K H p (rs.map V.ref) ∧ rs.length = n + 1 ∧ ∀ i r, rs[i]? = some r → ∃ ms : List Int, SqL K H r (ms.map V.int) ∧ ms.Pairwise (· < ·) ∧ (H r = some (.lst (ms.map V.int)) ∧ H0 r = none) ∧ ∀ x, x ∈ ms ↔ ∃ j : Nat, x = j ∧ A i j
theorem LinksN.same {K : PySem.W.Frag} {H0 H H' : Hp} {p : Addr} {n : Nat} {A : Nat → Nat → Prop} (h : LinksN K H0 H p n A) (s : Same H H') : LinksN K H0 H' p n A := by
  obtain ⟨rs, h1, h2, h3⟩ := h
  refine ⟨rs, s.seq h1, h2, fun i r e => ?_⟩
  obtain ⟨ms, m1, m2, m3, m4⟩ := h3 i r e
  exact ⟨ms, s.seq m1, m2, ⟨s _ _ m3.1, m3.2⟩, m4⟩
theorem adj_fresh {ws : List Str} {k : Nat} {W z : Str} {m : Nat} (nd : ws.Nodup) (hW : ws[k]? = some W) (hw : ∀ W ∈ ws, 1 ≤ W.length) (oc : Mw.Occ W z m) : ¬ Mw.AdjB (ws.take k) W z m m (m + W.length) ∧ ¬ Mw.AdjB (ws.take k) W z m (m + W.length) m := by
  have w1 := hw W (List.mem_of_getElem? hW)
  have no : W ∉ ws.take k := fun h => by
    obtain ⟨j, hj, e⟩ := List.mem_take_iff_getElem.mp h
    obtain ⟨hk, e2⟩ := List.getElem?_eq_some_iff.mp hW
    have := (List.pairwise_iff_getElem.mp nd) j k (by omega) hk (by omega)
    exact this (e.trans e2.symm)
  have same : ∀ W', Mw.Occ W' z m → W'.length = W.length → W' = W := fun W' o e => by
    have h1 := o.2
    rw [e] at h1
    exact h1.symm.trans oc.2
  constructor
  · rintro (⟨W', mm, ⟨o, e⟩ | ⟨o, e⟩⟩ | ⟨h, _⟩ | ⟨h, _⟩)
    · exact no (same W' o (by omega) ▸ mm)
    · have := hw W' (List.mem_of_mem_take mm)
      omega
    · omega
    · omega
  · rintro (⟨W', mm, ⟨o, e⟩ | ⟨o, e⟩⟩ | ⟨h, _⟩ | ⟨h, _⟩)
    · have := hw W' (List.mem_of_mem_take mm)
      omega
    · exact no (same W' o (by omega) ▸ mm)
    · omega
    · omega
theorem sorted_lt {ms : List Int} (h : ms.Pairwise (· ≤ ·)) (nd : ms.Nodup) : ms.Pairwise (· < ·) := by
  have := h.and nd
  exact this.imp fun ⟨a, b⟩ => by omega
def sp_links_of (K : PySem.W.Frag) : Sp := fun vs H Q _ => ∃ (a : Addr) (ws : List Str) (z : Str), vs = [.ref a, .str z] ∧ Ru.SqR K H a (ws.map V.str) ∧ (∀ W ∈ ws, 1 ≤ W.length ∧ W.length ≤ 1000) ∧ ws.length ≤ 100 ∧ z.length ≤ 1000 ∧ ∀ p H', Links K H' p z.length (Mw.Adj ws z) → Same H H' → H p = none → (ws.Nodup → LinksN K H H' p z.length (Mw.Adj ws z)) → Q (.ref p) H'
/-- the rows so far: f the list of them, G0 what stood ahead -/
structure SoFar (G0 H : Hp) (f : Addr) (rs : List Addr) (n : Nat) (F : Nat → List Int) : Prop where
  sm : Same G0 H
  hf : H f = some (.lst (rs.map V.ref))
  ro : Rows H rs F
  ln : rs.length = n + 1
  nr : ∀ r ∈ rs, G0 r = none ∧ r ≠ f
theorem SoFar.put {G0 H G : Hp} {f : Addr} {rs : List Addr} {n : Nat} {F : Nat → List Int} (h : SoFar G0 H f rs n F) {i : Nat} {r : Addr} {x : Int} (hi : rs[i]? = some r) (g : G r = some (.lst ((F i).map V.int ++ [.int x]))) (off : ∀ b, b ≠ r → G b = H b) : SoFar G0 G f rs n (fun j => if j = i then F i ++ [x] else F j) := by
  have m := h.nr r (List.mem_of_getElem? hi)
  refine ⟨fun b o e => ?_, ?_, h.ro.put hi g off, h.ln, h.nr⟩
  · rw [off b (ne_of_none e m.1)]
    exact h.sm b o e
  · rw [off f m.2.symm]
    exact h.hf
theorem SoFar.row {G0 H : Hp} {f : Addr} {rs : List Addr} {n : Nat} {F : Nat → List Int} (h : SoFar G0 H f rs n F) {i : Nat} (hi : i ≤ n) : ∃ r, rs[i]? = some r ∧ H r = some (.lst ((F i).map V.int)) ∧ atI (rs.map V.ref) (i : Int) = some (.ref r) := by
  have l : i < rs.length := by have := h.ln; omega
  exact ⟨rs[i], List.getElem?_eq_getElem l, h.ro.2 i _ (List.getElem?_eq_getElem l), atI_nat (Rd.map_ref l)⟩
theorem ok_links_of (T : Txt K mg) : FnOk P w K mg base CX0 1 T.f_links_of T.fd_links_of ["watches", "word"] (sp_links_of K) := by
  refine T.F_links_of.ok sc_links_of (fun vs H Q E h => ?_) (fun cdv A outer s H vs Q E hr h => ?_)
  · obtain ⟨a, ws, z, rfl, _⟩ := h
    rfl
  · obtain ⟨a, ws, z, rfl, hS, hw, l1, l2, k⟩ := h
    refine ⟨_, (pss_cons (ps_setLc (i := 3) (own := [("spot", 2)]) (g := gName 2) (tt := tYes) rfl sc_links_of.nd rfl rfl (sw_true rfl rfl rfl (by decide +kernel)) (pi_range1 rfl T.n_range (pa_cons (pe_op op_add (pe_callB (id := "len") (r := _) Rd.c_lenS (by rfl) T.n_len (by decide +kernel) (pa_cons (pv 1) pa_nil)) pe_int) pa_nil)) (blkOk_by (own := [("spot", 2)]) (N := ["watches", "word", "spot", "found", "watch", "row"]) (sc := defScope s_links_of) (by decide +kernel)) (fun _ _ _ _ _ => (pg_name (i := 2) sc_links_of.nd rfl (.inl rfl))) (fun _ _ _ _ _ => pts_nil) (fun _ _ _ _ _ => (pe_lst pa_nil)))
  (pss_cons (ps_for PassesOwn.never rfl (Ru.pi_or (pi_list (pv 0)) (pi_tup (pv 0))) (pg_name (i := 4) sc_links_of.nd rfl (.inl rfl))
  (pss_one (ps_for PassesOwn.never rfl (pi_range1 rfl T.n_range (pa_cons (pe_op op_add (pe_op op_sub (pe_callB (id := "len") (r := _) Rd.c_lenS (by rfl) T.n_len (by decide +kernel) (pa_cons (pv 1) pa_nil)) (pe_callB (id := "len") (r := _) Rd.c_lenS (by rfl) T.n_len (by decide +kernel) (pa_cons (pv 4) pa_nil))) pe_int) pa_nil)) (pg_name (i := 2) sc_links_of.nd rfl (.inl rfl))
  (pss_one (ps_if (pt_cmpR op_eq (pe_slice sl_str (pv 1) (po_some (pv 2)) (po_some (pe_op op_add (pv 2) (pe_callB (id := "len") (r := _) Rd.c_lenS (by rfl) T.n_len (by decide +kernel) (pa_cons (pv 4) pa_nil))))) (pv 4) (nomark _))
  (pss_cons (ps_expr (pe_bm PySem.F.plainAttrs_list PySem.F.slot_list_append PySem.F.type_list_append mt_append (pe_ix (r := rIxL K) ix_list (pv 3) (pv 2) (fun _ _ => rfl)) (pa_cons (pe_op op_add (pv 2) (pe_callB (id := "len") (r := _) Rd.c_lenS (by rfl) T.n_len (by decide +kernel) (pa_cons (pv 4) pa_nil))) pa_nil)))
  (pss_one (ps_expr (pe_bm PySem.F.plainAttrs_list PySem.F.slot_list_append PySem.F.type_list_append mt_append (pe_ix (r := rIxL K) ix_list (pv 3) (pe_op op_add (pv 2) (pe_callB (id := "len") (r := _) Rd.c_lenS (by rfl) T.n_len (by decide +kernel) (pa_cons (pv 4) pa_nil))) (fun _ _ => rfl)) (pa_cons (pv 2) pa_nil)))))
  pss_nil)))))
  (pss_one (ps_ret (pe_lc (own := [("row", 5)]) (g := gName 5) (tt := tYes) rfl sc_links_of.nd (pi_list (pv 3)) (blkOk_by (own := [("row", 5)]) (N := ["watches", "word", "spot", "found", "watch", "row"]) (sc := defScope s_links_of) (by decide +kernel)) (fun _ _ _ _ _ => (pg_name (i := 5) sc_links_of.nd rfl (.inl rfl))) (fun _ _ _ _ _ => pts_nil) (fun _ _ _ _ _ => (pe_callB (id := "sorted") (r := rSortedI K) cr_sortedI (by rfl) T.n_sorted (by decide +kernel) (pa_cons (pv 5) pa_nil)))))))), ?_⟩
    have zl : z.length ≤ sizeLine := by rw [sizeLine_eq]; omega
    walk_at "rd"
    refine Rd.lenStr zl ?_
    walk_at "rd"
    refine ⟨by omega, by omega, ?_⟩
    rw [show ((z.length : Int) + 1).toNat = z.length + 1 by omega]
    refine Rd.lcS walk_range (fun _ _ => trivial) (fun D i acc Hc => ∃ rs : List Addr, acc = rs.map V.ref ∧ rs.length = i ∧ rs.Nodup ∧ (∀ r ∈ rs, H r = none ∧ r ≠ D) ∧ ∀ r ∈ rs, Hc r = some (.lst [])) (fun _ _ _ _ _ => ⟨[], rfl, rfl, .nil, fun _ h => by simp at h, fun _ h => by simp at h⟩) ?_ ?_
    · rintro D i x G _ acc nD hi hD sm ⟨rs, rfl, ln, nd, h1, h2⟩ ⟨rfl, rfl⟩
      walk_at "rd"
      refine ⟨rfl, Rd.tyes ?_⟩
      walk_at "rd"
      refine ⟨Nat.zero_le _, Rd.new fun r G1 nr gr s1 => ?_⟩
      refine Rd.lcPush (s1 _ _ hD) nD (sm.trans s1) (by rw [List.length_map, ln, sizeLine_eq]; omega) fun G2 g2 off2 => ?_
      have rD : r ≠ D := (ne_of_none hD nr).symm
      have out : ∀ q ∈ rs, q ≠ r := fun q hq => ne_of_none (h2 q hq) nr
      refine ⟨rs ++ [r], by rw [List.map_append]; rfl, by rw [List.length_append, ln]; rfl, ?_, fun q hq => ?_, fun q hq => ?_⟩
      · rw [List.nodup_append]
        exact ⟨nd, by simp, fun q hq y hy e => out q hq (by simp at hy; rw [e, hy])⟩
      · rcases List.mem_append.mp hq with h | h
        · exact h1 q h
        · simp at h
          subst h
          exact ⟨sm.free nr, rD⟩
      · rcases List.mem_append.mp hq with h | h
        · rw [off2 q (h1 q h).2]
          exact s1 _ _ (h2 q h)
        · simp at h
          subst h
          rw [off2 q rD]
          exact gr
    · rintro f acc G nf hf sm ⟨rs, rfl, ln, nd, h1, h2⟩
      walk_at "rd"
      have sf0 : SoFar H G f rs z.length (fun _ => []) := ⟨sm, hf, ⟨nd, fun i r e => h2 r (List.mem_of_getElem? e)⟩, ln, h1⟩
      refine Ru.for_row (a := a) (xs := ws.map V.str) (fun Q q => ?_) (fun k σ H' => ∃ o1 o2 F, σ = [some (.ref a), some (.str z), o1, some (.ref f), o2, none] ∧ SoFar H H' f rs z.length F ∧ (∀ i, i ≤ z.length → ∀ x, x ∈ F i ↔ ∃ j : Nat, x = j ∧ Mw.Adj (ws.take k) z i j) ∧ ∀ i, (F i).length ≤ 2 * (k * (z.length + 1)) ∧ (ws.Nodup → (F i).Nodup)) hS
        ⟨_, _, _, rfl, sf0, fun i _ x => ⟨fun h => by simp at h, fun ⟨j, _, h⟩ => absurd h Mw.adj_nil⟩, fun i => ⟨Nat.zero_le _, fun _ => .nil⟩⟩ (fun i σ H' _ ⟨_, _, _, _, z, _⟩ => z.sm) ?_ ?_
      · walk_at "rd"
        exact q
      · rintro k x _ H' hx ⟨o1, o2, F, rfl, sf, hF, lF⟩
        obtain ⟨W, hW, rfl⟩ := Rd.map_strG hx
        have wl := hw W (List.mem_of_getElem? hW)
        have wz : W.length ≤ sizeLine := by rw [sizeLine_eq]; omega
        have kl : k < ws.length := (List.getElem?_eq_some_iff.mp hW).1
        walk_at "rd"
        refine Rd.forS ?_
        walk_at "rd"
        refine Rd.lenStr zl ?_
        walk_at "rd"
        refine Rd.lenStr wz ?_
        walk_at "rd"
        refine ⟨by omega, by omega, ?_⟩
        refine for_range (lo := 0) (n := ((z.length : Int) - (W.length : Int) + 1).toNat) (fun m σ H' => ∃ o1 F, σ = [some (.ref a), some (.str z), o1, some (.ref f), some (.str W), none] ∧ SoFar H H' f rs z.length F ∧ (∀ i, i ≤ z.length → ∀ x, x ∈ F i ↔ ∃ j : Nat, x = j ∧ Mw.AdjB (ws.take k) W z m i j) ∧ ∀ i, (F i).length ≤ 2 * (k * (z.length + 1) + m) ∧ (ws.Nodup → (F i).Nodup))
          ⟨_, F, rfl, sf, fun i hi x => (hF i hi x).trans (exists_congr fun j => and_congr_right fun _ => Mw.adjB_zero.symm), lF⟩ ?_ ?_
        · rintro m _ H1 hm ⟨o1, F, rfl, sf, hF, lF⟩
          have mz : m + W.length ≤ z.length := by omega
          have kz : k * (z.length + 1) ≤ 100 * 1001 := Nat.mul_le_mul (by omega) (by omega)
          have small : ∀ i, (F i).length < sizeLine := fun i => by have := (lF i).1; rw [sizeLine_eq]; omega
          walk_at "rd"
          rw [Int.zero_add]
          refine Rd.lenStr wz ?_
          walk_at "rd"
          refine Rd.slS zl ?_
          walk_at "rd"
          refine ite2 (fun q => ?_) (fun q => ?_)
          · have oc : Mw.Occ W z m := ⟨mz, q⟩
            walk_at "rd"
            obtain ⟨r, e1, e2, e3⟩ := sf.row (i := m) (by omega)
            refine Rd.ixL (.of sf.hf) e3 ?_
            refine Rd.tyL (.of e2) ?_
            walk_at "rd"
            refine Rd.lenStr wz ?_
            walk_at "rd"
            refine Rd.app e2 (by rw [List.length_map]; exact small m) fun G1 g1 off1 => ?_
            have sf1 := sf.put e1 g1 off1
            walk_at "rd"
            refine Rd.lenStr wz ?_
            walk_at "rd"
            obtain ⟨r', d1, d2, d3⟩ := sf1.row (i := m + W.length) mz
            rw [show ((m + W.length : Nat) : Int) = (m : Int) + (W.length : Int) by omega] at d3
            have ne : ¬ m + W.length = m := by omega
            rw [if_neg ne] at d2
            refine Rd.ixL (.of sf1.hf) d3 ?_
            refine Rd.tyL (.of d2) ?_
            walk_at "rd"
            refine Rd.app d2 (by rw [List.length_map]; exact small _) fun G2 g2 off2 => ?_
            have sf2 := sf1.put (x := (m : Int)) d1 (by rw [if_neg ne]; exact g2) off2
            walk_at "rd"
            have fr : ws.Nodup → ((m : Int) + (W.length : Int)) ∉ F m ∧ (m : Int) ∉ F (m + W.length) := fun nd => by
              have ⟨f1, f2⟩ := adj_fresh nd hW (fun W m => (hw W m).1) oc
              constructor
              · intro h
                obtain ⟨j, e, a⟩ := (hF m (by omega) _).mp h
                rw [show j = m + W.length by omega] at a
                exact f1 a
              · intro h
                obtain ⟨j, e, a⟩ := (hF (m + W.length) mz _).mp h
                rw [show j = m by omega] at a
                exact f2 a
            have ndp : ∀ {l : List Int} {x : Int}, l.Nodup → x ∉ l → (l ++ [x]).Nodup := fun h n => by
              rw [List.nodup_append]
              exact ⟨h, by simp, fun a ha b hb e => n (by simp at hb; rw [← hb, ← e]; exact ha)⟩
            refine ⟨_, _, rfl, sf2, fun i hi x => ?_, fun i => ?_⟩
            · have base := hF i hi x
              have yes : ∀ j, Mw.AdjB (ws.take k) W z (m + 1) i j ↔ Mw.AdjB (ws.take k) W z m i j ∨ (i = m ∧ j = m + W.length) ∨ (j = m ∧ i = m + W.length) := fun j => Mw.adjB_yes oc
              simp only [yes]
              by_cases c1 : i = m + W.length
              · subst c1
                rw [if_pos rfl, if_neg ne, List.mem_append, base]
                constructor
                · rintro (⟨j, h1, h2⟩ | h)
                  · exact ⟨j, h1, .inl h2⟩
                  · exact ⟨m, by simpa using h, .inr (.inr ⟨rfl, rfl⟩)⟩
                · rintro ⟨j, h1, h2 | ⟨h2, _⟩ | ⟨h2, _⟩⟩
                  · exact .inl ⟨j, h1, h2⟩
                  · omega
                  · exact .inr (by simp; omega)
              · rw [if_neg c1]
                by_cases c2 : i = m
                · subst c2
                  rw [if_pos rfl, List.mem_append, base]
                  constructor
                  · rintro (⟨j, h1, h2⟩ | h)
                    · exact ⟨j, h1, .inl h2⟩
                    · exact ⟨_, by simpa using h, .inr (.inl ⟨rfl, rfl⟩)⟩
                  · rintro ⟨j, h1, h2 | ⟨_, h2⟩ | ⟨_, h2⟩⟩
                    · exact .inl ⟨j, h1, h2⟩
                    · exact .inr (by simp; omega)
                    · omega
                · rw [if_neg c2, base]
                  constructor
                  · rintro ⟨j, h1, h2⟩
                    exact ⟨j, h1, .inl h2⟩
                  · rintro ⟨j, h1, h2 | ⟨h2, _⟩ | ⟨_, h2⟩⟩
                    · exact ⟨j, h1, h2⟩
                    · exact absurd h2 c2
                    · exact absurd h2 c1
            · have b1 := lF i
              have b2 := lF m
              have b3 := lF (m + W.length)
              refine ⟨?_, fun nd => ?_⟩
              rotate_left
              · show (if i = m + W.length then (if m + W.length = m then F m ++ [(m : Int) + (W.length : Int)] else F (m + W.length)) ++ [(m : Int)] else if i = m then F m ++ [(m : Int) + (W.length : Int)] else F i).Nodup
                rw [if_neg ne]
                split
                · exact ndp (b3.2 nd) (fr nd).2
                · split
                  · exact ndp (b2.2 nd) (fr nd).1
                  · exact b1.2 nd
              replace b1 := b1.1
              replace b2 := b2.1
              replace b3 := b3.1
              show (if i = m + W.length then (if m + W.length = m then F m ++ [(m : Int) + (W.length : Int)] else F (m + W.length)) ++ [(m : Int)] else if i = m then F m ++ [(m : Int) + (W.length : Int)] else F i).length ≤ _
              rw [if_neg ne]
              split
              · rw [List.length_append, List.length_singleton]; omega
              · split
                · rw [List.length_append, List.length_singleton]; omega
                · omega
          · have oc : ¬ Mw.Occ W z m := fun h => q h.2
            walk_at "rd"
            exact ⟨_, F, rfl, sf, fun i hi x => (hF i hi x).trans (exists_congr fun j => and_congr_right fun _ => (Mw.adjB_no oc).symm), fun i => ⟨by have := (lF i).1; omega, (lF i).2⟩⟩
        · rintro _ H1 ⟨o1, F, rfl, sf, hF, lF⟩
          walk_at "rd"
          refine ⟨_, _, F, rfl, sf, fun i hi x => (hF i hi x).trans (exists_congr fun j => and_congr_right fun _ => ?_), fun i => ?_⟩
          · rw [Rd.take_snoc hW]
            exact Mw.adjB_all (by omega)
          · refine ⟨?_, (lF i).2⟩
            have := (lF i).1
            have e : (k + 1) * (z.length + 1) = k * (z.length + 1) + (z.length + 1) := Nat.succ_mul _ _
            omega
      · rintro _ G1 ⟨o1, o2, F, rfl, sf, hF, lF⟩
        rw [List.length_map, List.take_length] at hF
        have big : ∀ i, (F i).length ≤ 1000000 := fun i => by
          have h1 := (lF i).1
          rw [List.length_map] at h1
          have h2 : ws.length * (z.length + 1) ≤ 100 * 1001 := Nat.mul_le_mul l1 (by omega)
          omega
        walk_at "rd"
        refine ⟨⟨_, .of sf.hf⟩, Rd.lcS walk_list (fun _ s => .of (s _ _ sf.hf)) (fun D i acc Hc => ∃ qs : List Addr, acc = qs.map V.ref ∧ qs.length = i ∧ (∀ q ∈ qs, q ≠ D ∧ H q = none) ∧ ∀ j q, qs[j]? = some q → ∃ ms : List Int, Hc q = some (.lst (ms.map V.int)) ∧ ms.Pairwise (· ≤ ·) ∧ ms.Perm (F j)) (fun _ _ _ _ _ => ⟨[], rfl, rfl, fun _ h => by simp at h, fun _ _ h => by simp at h⟩) ?_ ?_⟩
        · rintro D i x G2 _ acc nD hi hD sm2 ⟨qs, rfl, ql, qD, hq⟩ ⟨rfl, hx⟩
          obtain ⟨r, hr, rfl⟩ := Rd.map_refG hx
          walk_at "rd"
          refine ⟨rfl, Rd.tyes ?_⟩
          walk_at "rd"
          refine Rd.sortedI (.of (sm2 _ _ (sf.ro.2 i r hr))) fun ms p G3 pm ps gp s3 np => ?_
          have pD : p ≠ D := (ne_of_none hD np).symm
          refine Rd.lcPush (s3 _ _ hD) nD (sm2.trans s3) (by rw [List.length_map, ql, sizeLine_eq]; rw [List.length_map, ln] at hi; omega) fun G4 g4 off4 => ?_
          refine ⟨qs ++ [p], by rw [List.map_append]; rfl, by rw [List.length_append, ql]; rfl, fun q h => ?_, fun j q h => ?_⟩
          · rcases List.mem_append.mp h with h | h
            · exact qD q h
            · simp at h
              rw [h]
              exact ⟨pD, sf.sm.free (sm2.free np)⟩
          · rcases Nat.lt_or_ge j qs.length with l | l
            · rw [List.getElem?_append_left l] at h
              obtain ⟨ms', h1, h2, h3⟩ := hq j q h
              exact ⟨ms', by rw [off4 q (qD q (List.mem_of_getElem? h)).1]; exact s3 _ _ h1, h2, h3⟩
            · rw [List.getElem?_append_right l] at h
              have e : j = i := by
                have := (List.getElem?_eq_some_iff.mp h).1
                simp at this
                omega
              subst e
              rw [ql, Nat.sub_self] at h
              cases h
              exact ⟨ms, by rw [off4 _ pD]; exact gp, ps, pm⟩
        · rintro D acc G2 nD hD sm2 ⟨qs, rfl, ql, qD, hq⟩
          rw [List.length_map, ln] at ql
          refine k D G2 ⟨qs, .of hD, ql, fun i q h => ?_⟩ (sf.sm.trans sm2) (sf.sm.free nD) fun nd => ⟨qs, .of hD, ql, fun i q h => ?_⟩
          · obtain ⟨ms, h1, h2, h3⟩ := hq i q h
            exact ⟨ms, .of h1, ⟨h2, by rw [h3.length_eq]; exact big i⟩, fun x => h3.mem_iff.trans (hF i (by have := (List.getElem?_eq_some_iff.mp h).1; omega) x)⟩
          · obtain ⟨ms, h1, h2, h3⟩ := hq i q h
            exact ⟨ms, .of h1, sorted_lt h2 (h3.nodup_iff.mpr ((lF i).2 nd)), ⟨h1, (qD q (List.mem_of_getElem? h)).2⟩, fun x => h3.mem_iff.trans (hF i (by have := (List.getElem?_eq_some_iff.mp h).1; omega) x)⟩

end
end W

namespace W
open PySem PySem.Spec PyProof.Rows L2
section
variable {P : Program} {w : World} {K : PySem.W.Frag} {mg : Str → Option Value} {base : Heap}
/-! ### grown: all that is led to -/
def sp_grown (K : PySem.W.Frag) : Sp := fun vs H Q _ => ∃ (p q : Addr) (n : Nat) (A : Nat → Nat → Prop) (ss : List Int), vs = [.ref p, .ref q] ∧ Links K H p n A ∧ SqL K H q (ss.map V.int) ∧ n ≤ 1000 ∧ (∀ i j, A i j → j ≤ n) ∧ ss.Nodup ∧ (∀ s ∈ ss, 0 ≤ s ∧ s ≤ n) ∧
  ∀ (r : Addr) (gs : List Int) H', H' r = some (.lst (gs.map V.int)) → gs.Nodup → (∀ x, x ∈ gs ↔ ∃ i : Nat, x = i ∧ ∃ s : Nat, (s : Int) ∈ ss ∧ Mw.Star A s i) → Same H H' → H r = none → Q (.ref r) H'
theorem ok_grown (T : Txt K mg) : FnOk P w K mg base CX0 1 T.f_grown T.fd_grown ["links", "spots"] (sp_grown K) := by
  refine T.F_grown.ok sc_grown (fun vs H Q E h => ?_) (fun cdv A outer s H vs Q E hr h => ?_)
  · obtain ⟨p, q, n, A, ss, rfl, _⟩ := h
    rfl
  · obtain ⟨p, q, n, A, ss, rfl, hL, hq, hn, hA, nd, hs, k⟩ := h
    refine ⟨_, (pss_cons (ps_set (i := 2) sc_grown.nd rfl (.inl rfl) (pe_callTy (T := "list") (r := Rd.nListOf K) Rd.c_listOf (by rfl) T.n_list (by decide +kernel) (pa_cons (pv 1) pa_nil)))
  (pss_cons (ps_set (i := 3) sc_grown.nd rfl (.inl rfl) pe_int)
  (pss_cons (ps_while PassesOwn.never (pt_cmpR op_lt (pv 3) (pe_callB (id := "len") (r := Rd.nLen K) Rd.c_len (by rfl) T.n_len (by decide +kernel) (pa_cons (pv 2) pa_nil)) (nomark _))
  (pss_cons (ps_for PassesOwn.never rfl (pi_list (pe_ix (r := rIxL K) ix_list (pv 0) (pe_ix (r := rIxL K) ix_list (pv 2) (pv 3) (fun _ _ => rfl)) (fun _ _ => rfl))) (pg_name (i := 4) sc_grown.nd rfl (.inl rfl))
  (pss_one (ps_if (pt_cmpR (r := rIn K true) op_notIn_seq (pv 4) (pv 2) (by rfl))
  (pss_one (ps_expr (pe_bm PySem.F.plainAttrs_list PySem.F.slot_list_append PySem.F.type_list_append mt_append (pv 2) (pa_cons (pv 4) pa_nil))))
  pss_nil)))
  (pss_one (ps_aug (i := 3) sc_grown.nd rfl (.inl rfl) pe_int ip_add))))
  (pss_one (ps_ret (pv 2)))))), ?_⟩
    walk_at "rd"
    refine Rd.listOf (.inl hq) (Rd.new fun f G nf gf sG => ?_)
    walk_at "rd"
    obtain ⟨rs, hp, rl, hr⟩ := hL
    refine Rd.whl (fun m σ H' => ∃ (gs : List Int) (at_ : Nat) (o : Option V), σ = [some (.ref p), some (.ref q), some (.ref f), some (.int at_), o] ∧ H' f = some (.lst (gs.map V.int)) ∧ Same H H' ∧ gs.Nodup ∧ (∀ x ∈ gs, ∃ i : Nat, x = i ∧ i ≤ n ∧ ∃ s : Nat, (s : Int) ∈ ss ∧ Mw.Star A s i) ∧ (∀ x ∈ ss, x ∈ gs) ∧ at_ ≤ gs.length ∧ (∀ (k : Nat) (i j : Nat), k < at_ → gs[k]? = some (i : Int) → A i j → (j : Int) ∈ gs) ∧ m = n + 1 - at_)
      ⟨n + 1, ss, 0, none, rfl, gf, sG, nd, fun x hx => ⟨x.toNat, by have := hs x hx; omega, by have := hs x hx; omega, x.toNat, by have := hs x hx; rw [show ((x.toNat : Nat) : Int) = x by omega]; exact hx, .refl⟩, fun x h => h, Nat.zero_le _, fun k i j h => by omega, rfl⟩ ?_
    rintro m _ H1 ⟨gs, at_, o, rfl, hf, sm, gnd, hg, hss, la, cl, rfl⟩
    have gl : gs.length ≤ n + 1 := Mw.nodup_range gnd fun x hx => by obtain ⟨i, e, l, _⟩ := hg x hx; omega
    walk_at "rd"
    refine Rd.len (.inl (.of hf)) ?_
    rw [List.length_map]
    walk_at "rd"
    refine ite2 (fun c => ?_) (fun c => ?_)
    · refine Rd.whN ?_
      walk_at "rd"
      have al : at_ < gs.length := by omega
      obtain ⟨i, ei, il, si⟩ := hg _ (List.getElem_mem al)
      have hrow : i < rs.length := by omega
      obtain ⟨ms, m1, _, m2⟩ := hr i _ (List.getElem?_eq_getElem hrow)
      refine Rd.forS ?_
      walk_at "rd"
      refine Rd.ixL (.of hf) (atI_nat (Rd.map_int al)) ?_
      refine Rd.ixL (sm.seq hp) (by rw [ei]; exact atI_nat (Rd.map_ref hrow)) ?_
      walk_at "rd"
      refine ⟨⟨_, sm.seq m1⟩, for_list (K := K) (a := rs[i]) (xs := ms.map V.int) (fun t σ H' => ∃ (gs' : List Int) (o : Option V), σ = [some (.ref p), some (.ref q), some (.ref f), some (.int at_), o] ∧ H' f = some (.lst (gs'.map V.int)) ∧ Same H H' ∧ gs'.Nodup ∧ (∀ x ∈ gs', ∃ i : Nat, x = i ∧ i ≤ n ∧ ∃ s : Nat, (s : Int) ∈ ss ∧ Mw.Star A s i) ∧ (∃ ex, gs' = gs ++ ex) ∧ ∀ x ∈ ms.take t, x ∈ gs')
        ⟨gs, _, rfl, hf, sm, gnd, hg, ⟨[], by simp⟩, fun x h => by simp at h⟩ (fun t σ H' _ ⟨_, _, _, _, s, _⟩ => s.seq m1) ?_ ?_⟩
      · rintro t y0 _ H2 hy0 ⟨gs', o, rfl, hf2, sm2, gnd2, hg2, ⟨ex, he⟩, ht⟩
        obtain ⟨y, hy, rfl⟩ := Rd.map_get hy0
        obtain ⟨j, ej, aj⟩ := (m2 y).mp (List.mem_of_getElem? hy)
        have gl2 : gs'.length ≤ n + 1 := Mw.nodup_range gnd2 fun x hx => by obtain ⟨i, e, l, _⟩ := hg2 x hx; omega
        walk_at "rd"
        refine Rd.inIntsN (.inl (.of hf2)) ?_
        walk_at "rd"
        refine ite2 (fun c2 => ?_) (fun c2 => ?_)
        · walk_at "rd"
          refine ⟨gs', _, rfl, hf2, sm2, gnd2, hg2, ⟨ex, he⟩, fun x hx => ?_⟩
          rw [Rd.take_snoc hy] at hx
          rcases List.mem_append.mp hx with h | h
          · exact ht x h
          · simp at h
            rw [h]
            exact c2
        · walk_at "rd"
          refine Rd.tyL (.of hf2) ?_
          walk_at "rd"
          refine Rd.app hf2 (by rw [List.length_map, sizeLine_eq]; omega) fun G3 g3 off3 => ?_
          walk_at "rd"
          refine ⟨gs' ++ [y], _, rfl, by rw [List.map_append]; exact g3, fun b o e => ?_, ?_, fun x hx => ?_, ⟨ex ++ [y], by rw [he, List.append_assoc]⟩, fun x hx => ?_⟩
          · rw [off3 b (ne_of_none e nf)]
            exact sm2 b o e
          · rw [List.nodup_append]
            exact ⟨gnd2, by simp, fun x hx z hz e => c2 (by simp at hz; rw [← hz, ← e]; exact hx)⟩
          · rcases List.mem_append.mp hx with h | h
            · exact hg2 x h
            · simp at h
              obtain ⟨s, h1, h2⟩ := si
              exact ⟨j, by rw [h, ej], hA _ _ aj, s, h1, .step h2 aj⟩
          · rw [Rd.take_snoc hy] at hx
            rcases List.mem_append.mp hx with h | h
            · exact List.mem_append.mpr (.inl (ht x h))
            · exact List.mem_append.mpr (.inr h)
      · rintro _ H2 ⟨gs', o, rfl, hf2, sm2, gnd2, hg2, ⟨ex, he⟩, ht⟩
        rw [List.length_map, List.take_length] at ht
        have gl2 : gs'.length ≤ n + 1 := Mw.nodup_range gnd2 fun x hx => by obtain ⟨i, e, l, _⟩ := hg2 x hx; omega
        have lex : gs'.length = gs.length + ex.length := by rw [he, List.length_append]
        walk_at "rd"
        refine ⟨n + 1 - (at_ + 1), by omega, gs', at_ + 1, o, by rw [Int.natCast_add]; rfl, hf2, sm2, gnd2, hg2, fun x hx => by rw [he]; exact List.mem_append.mpr (.inl (hss x hx)), by omega, fun k i' j hk e a => ?_, rfl⟩
        · have kl : k < gs.length := by omega
          have e' : gs[k]? = some (i' : Int) := by
            rw [he, List.getElem?_append_left kl] at e
            exact e
          rcases Nat.lt_succ_iff_lt_or_eq.mp hk with l | l
          · rw [he]
            exact List.mem_append.mpr (.inl (cl k i' j l e' a))
          · subst l
            have : (i' : Int) = (i : Int) := by
              rw [List.getElem?_eq_getElem al] at e'
              rw [← ei]
              exact (Option.some.inj e').symm
            have : i' = i := by omega
            subst this
            exact ht _ ((m2 _).mpr ⟨j, rfl, a⟩)
    · walk_at "rd"
      have e : at_ = gs.length := by omega
      refine k f gs H1 hf gnd (fun x => ⟨fun hx => ?_, ?_⟩) sm nf
      · obtain ⟨i, e1, _, s, h1, h2⟩ := hg x hx
        exact ⟨i, e1, s, h1, h2⟩
      · rintro ⟨i, rfl, s, h1, h2⟩
        induction h2 with
        | refl => exact hss _ h1
        | step _ a ih =>
          obtain ⟨k, hk, e2⟩ := List.getElem_of_mem ih
          exact cl k _ _ (by omega) (by rw [List.getElem?_eq_getElem hk, e2]) a

/-! ### leads, leads_all, tells -/
def sp_leads (K : PySem.W.Frag) : Sp := fun vs H Q _ => ∃ (a : Addr) (ws : List Str) (z : Str), vs = [.ref a, .str z] ∧ Ru.SqR K H a (ws.map V.str) ∧ (∀ W ∈ ws, 1 ≤ W.length ∧ W.length ≤ 1000) ∧ ws.length ≤ 100 ∧ z.length ≤ 1000 ∧ ∀ (b : Bool) H', Same H H' → (b = true ↔ Mw.Told ws z) → Q (.bl b) H'
def sp_check_words (K : PySem.W.Frag) : Sp := fun vs H Q _ => ∃ (a : Addr) (zs : List Str), vs = [.ref a] ∧ Ru.SqR K H a (zs.map V.str) ∧ zs.length ≤ 20 ∧ (∀ z ∈ zs, Lt.Wd 40 z) ∧ ∀ H', Same H H' → Q .non H'
def sp_leads_all (K : PySem.W.Frag) : Sp := fun vs H Q _ => ∃ (a b : Addr) (ws zs : List Str), vs = [.ref a, .ref b] ∧ Ru.SqR K H a (ws.map V.str) ∧ (∀ W ∈ ws, 1 ≤ W.length ∧ W.length ≤ 1000) ∧ ws.length ≤ 100 ∧ Ru.SqR K H b (zs.map V.str) ∧ (∀ z ∈ zs, z.length ≤ 1000) ∧ zs.length ≤ 1000 ∧ ∀ (b : Bool) H', Same H H' → (b = true ↔ ∀ z ∈ zs, Mw.Told ws z) → Q (.bl b) H'
def sp_tells (K : PySem.W.Frag) (C : Addr) : Sp := fun vs H Q _ => ∃ (a b : Addr) (ws zs : List Str), vs = [.ref a, .ref b] ∧ BookAt C H a ws ∧ Watches ws ∧ Ru.SqR K H b (zs.map V.str) ∧ zs.length ≤ 20 ∧ (∀ z ∈ zs, Lt.Wd 40 z) ∧ ∀ (b : Bool) H', Same H H' → (b = true ↔ ∀ z ∈ zs, Mw.Told ws z) → Q (.bl b) H'
theorem all_told {ws : List Str} : ∀ (zs : List Str) (bs : List Bool), bs.length = zs.length → (∀ (i : Nat) z b, zs[i]? = some z → bs[i]? = some b → (b = true ↔ Mw.Told ws z)) → (bs.all id = true ↔ ∀ z ∈ zs, Mw.Told ws z)
  | [], [], _, _ => by simp
  | z :: zs, b :: bs, l, h => by
    have h0 := h 0 z b rfl rfl
    have ih := all_told zs bs (by simpa using l) fun i z b e1 e2 => h (i + 1) z b (by simpa using e1) (by simpa using e2)
    rw [List.all_cons, Bool.and_eq_true, List.forall_mem_cons, ← ih, ← h0]
    rfl
end
end W

namespace W
open PySem PySem.Spec PyProof.Rows L2
section
variable {P : Program} {w : World} {K : PySem.W.Frag} {mg : Str → Option Value} {base : Heap}
def sp_l_flag (K : PySem.W.Frag) : Sp := fun vs H Q _ => ∃ a b : Bool, vs = [.bl a, .bl b] ∧ Q (.bl (a == b)) H
theorem flagR {K : PySem.W.Frag} {H : Hp} {a b : Bool} {Q : VK} {E : XK} (k : Q (.bl (a == b)) H) : sp_l_flag K [.bl a, .bl b] H Q E := ⟨a, b, rfl, k⟩
theorem ok_l_flag (T : Txt K mg) : FnOk P w K mg base CX0 1 T.f_l_flag T.fd_l_flag ["_law_told", "_law_due"] (sp_l_flag K) := by
  refine T.F_l_flag.ok sc_l_flag (fun vs H Q E h => ?_) (fun cdv A outer s H vs Q E hr h => ?_)
  · obtain ⟨a, b, rfl, _⟩ := h
    rfl
  · obtain ⟨a, b, rfl, k⟩ := h
    refine ⟨_, (pss_one (ps_ret (pe_and (pe_callB (id := "isinstance") (r := rIsi K) call_isi (by rfl) T.n_isinstance (by decide +kernel) (pa_cons (pv 0) (pa_cons (pe_bltn (v := .ty "bool") (u := .type "bool") (by rfl) T.n_bool (by decide +kernel) rfl) pa_nil))) (pe_one (pe_cmpR op_eq (pv 0) (pv 1) (nomark _)))))), ?_⟩
    walk_at "rd"
    refine Rd.isiB ?_
    walk_at "rd"
    exact k

end
end W

namespace W
open PySem PySem.Spec PyProof.Rows L2
section
variable {P : Program} {w : World} {K : PySem.W.Frag} {mg : Str → Option Value} {base : Heap}
/-! ### words and watches drawn, the second way -/
theorem but_off {t l : Addr} {H H1 G : Hp} (b : Rd.But t H H1) (n : H l = none) (off : ∀ q, q ≠ l → G q = H1 q) : Rd.But t H G := fun q o h e => by rw [off q (ne_of_none e n)]; exact b q o h e
/-- a comprehension that draws -/
def LcStT (t c D : Addr) (H1 : Hp) (R : Nat → List V → Hp → Prop) : Nat → Hp → Prop := fun i H => ∃ acc, H D = some (.lst acc) ∧ Tape H t c ∧ Rd.But t H1 H ∧ R i acc H
def LcPuT (t c D : Addr) (H1 : Hp) (R : Nat → List V → Hp → Prop) (i : Nat) (y : V) (H4 : Hp) : Prop := ∃ acc, H4 D = some (.lst acc) ∧ acc.length < sizeLine ∧ LcStT t c D H1 R (i + 1) (upd H4 D (.lst (acc ++ [y])))
theorem lcPuT {t c D : Addr} {H1 H4 : Hp} {R : Nat → List V → Hp → Prop} {i : Nat} {y : V} {acc : List V} (hD : H4 D = some (.lst acc)) (nD : H1 D = none) (tp1 : Tape H1 t c) (tp : Tape H4 t c) (b : Rd.But t H1 H4) (hz : acc.length < sizeLine) (r : ∀ G : Hp, G D = some (.lst (acc ++ [y])) → (∀ b, b ≠ D → G b = H4 b) → R (i + 1) (acc ++ [y]) G) : LcPuT t c D H1 R i y H4 :=
  have ⟨dt, dc⟩ := tp1.new nD
  ⟨acc, hD, hz, acc ++ [y], upd_same, tp.off dt dc fun q h => upd_ne h, but_off b nD fun q h => upd_ne h, r _ upd_same fun b hb => upd_ne hb⟩
theorem lcT {J : It} {n : Nat} {G : Hp → Prop} {Y : Nat → Hp → V → Hp → Prop} (w : Walk J n G Y) {g : TG} {tt : TT} {te : TE} {vs : List Nat} {σ : L2.St} {H1 : Hp} {Q : VK} {t c : Addr} (tp : Tape H1 t c) (hG : ∀ H, Rd.But t H1 H → G H) (R : Addr → Nat → List V → Hp → Prop)
    (r0 : ∀ (D : Addr) (G : Hp), H1 D = none → G D = some (.lst []) → Same H1 G → R D 0 [] G)
    (hs : ∀ (D : Addr) i x H H' acc, H1 D = none → i < n → H D = some (.lst acc) → Tape H t c → Rd.But t H1 H → R D i acc H → Y i H x H' → g x (wipe σ vs) H' fun σ2 H2 => wipe σ2 vs = wipe σ vs ∧ tt σ2 H2 fun b H3 =>
      if b = true then te σ2 H3 fun y H4 => LcPuT t c D H1 (R D) i y H4 else LcStT t c D H1 (R D) (i + 1) H3)
    (hd : ∀ (D : Addr) acc H, H1 D = none → H D = some (.lst acc) → Tape H t c → Rd.But t H1 H → R D n acc H → Q (.ref D) H) : Rd.Lc J g tt te vs σ H1 Q := fun D nD =>
  lc_it w (LcStT t c D H1 (R D)) ⟨[], upd_same, tp.same (Rd.same_upd nD), Rd.But.of (Rd.same_upd nD), r0 D _ nD upd_same (Rd.same_upd nD)⟩ (fun i H hi ⟨acc, h1, h2, h3, h4⟩ => hG H h3)
    (fun i x H H' hi ⟨acc, h1, h2, h3, h4⟩ y => hs D i x H H' acc nD hi h1 h2 h3 h4 y) (fun H ⟨acc, h1, h2, h3, h4⟩ => hd D acc H nD h1 h2 h3 h4)
/-- single letters -/
def Ones (ys : List Str) : Prop := ∀ y ∈ ys, Lt.Let y ∧ y.length = 1
theorem Ones.nil : Ones [] := fun _ h => by simp at h
theorem Ones.snoc {ys : List Str} {c : Nat} (h : Ones ys) (hc : c ∈ Lt.Abc.cps.toList) : Ones (ys ++ [⟨#[c]⟩]) := fun y hy => by
  rcases List.mem_append.mp hy with q | q
  · exact h y q
  · simp at q
    subst q
    exact ⟨Lt.Let.one hc, rfl⟩
theorem Ones.snoc' {ys : List Str} {z : Str} (h : Ones ys) (hz : Lt.Let z ∧ z.length = 1) : Ones (ys ++ [z]) := fun y hy => by
  rcases List.mem_append.mp hy with q | q
  · exact h y q
  · simp at q
    subst q
    exact hz
theorem abc_get {i : Int} (h0 : 0 ≤ i) (h1 : i < 26) : ∃ c, atI Lt.Abc.cps.toList i = some c ∧ c ∈ Lt.Abc.cps.toList := by
  have l : Lt.Abc.cps.toList.length = 26 := by decide +kernel
  have hi : i.toNat < Lt.Abc.cps.toList.length := by omega
  exact ⟨_, Rd.atI_of h0 (List.getElem?_eq_getElem hi), List.getElem_mem hi⟩
theorem abc_nd2 : Lt.Abc.cps.toList.Nodup := by decide +kernel
theorem abc_at2 {i : Int} (h0 : 0 ≤ i) (h1 : i < 26) : ∃ c, Lt.Abc.cps.toList[i.toNat]? = some c ∧ c ∈ Lt.Abc.cps.toList := by
  have l : Lt.Abc.cps.toList.length = 26 := by decide +kernel
  have hi : i.toNat < Lt.Abc.cps.toList.length := by omega
  exact ⟨_, List.getElem?_eq_getElem hi, List.getElem_mem hi⟩
theorem abc_inj2 {a b : Int} {c : Nat} (a0 : 0 ≤ a) (b0 : 0 ≤ b) (ha : Lt.Abc.cps.toList[a.toNat]? = some c) (hb : Lt.Abc.cps.toList[b.toNat]? = some c) : a = b := by
  have go : ∀ {m n : Nat}, Lt.Abc.cps.toList[m]? = some c → Lt.Abc.cps.toList[n]? = some c → ¬ m < n := fun {m n} h1 h2 lt => Rd.nodup_take abc_nd2 h2 (List.mem_of_getElem? (by rw [List.getElem?_take, if_pos lt]; exact h1))
  have h1 := go ha hb
  have h2 := go hb ha
  omega
theorem let_get {z : Str} (h : Lt.Let z) {i : Int} (h0 : 0 ≤ i) (h1 : i < z.length) : ∃ c, atI z.cps.toList i = some c ∧ c ∈ Lt.Abc.cps.toList := by
  have hi : i.toNat < z.cps.toList.length := by rw [Array.length_toList]; unfold Str.length at h1; omega
  exact ⟨_, Rd.atI_of h0 (List.getElem?_eq_getElem hi), h _ (List.getElem_mem hi)⟩
def sp_l_letters (K : PySem.W.Frag) : Sp := fun vs H Q _ => ∃ (t c : Addr) (m : Int), vs = [.ref t, .int m] ∧ Tape H t c ∧ 0 ≤ m ∧ m ≤ 1000 ∧ ∀ (l : Addr) (ys : List Str) H', Tape H' t c → Rd.But t H H' → H l = none → H' l = some (.lst (ys.map V.str)) → (ys.length : Int) = m → Ones ys → (m ≤ 26 → ys.Nodup) → Q (.ref l) H'
def sp_l_word (K : PySem.W.Frag) : Sp := fun vs H Q _ => ∃ (t c : Addr) (m : Int), vs = [.ref t, .int m] ∧ Tape H t c ∧ 1 ≤ m ∧ m ≤ 1000 ∧ ∀ (z : Str) H', Lt.Wd m z → Tape H' t c → Rd.But t H H' → Q (.str z) H'
def sp_l_watch (K : PySem.W.Frag) : Sp := fun vs H Q _ => ∃ (t c : Addr) (z : Str) (m : Int), vs = [.ref t, .str z, .int m] ∧ Tape H t c ∧ Lt.Wd 1000 z ∧ 1 ≤ m ∧ m ≤ 1000 ∧ ∀ (y : Str) H', Lt.Wd m y → Tape H' t c → Rd.But t H H' → Q (.str y) H'
def sp_l_watches (K : PySem.W.Frag) : Sp := fun vs H Q _ => ∃ (t c : Addr) (z : Str) (many most : Int), vs = [.ref t, .str z, .int many, .int most] ∧ Tape H t c ∧ Lt.Wd 1000 z ∧ 0 ≤ many ∧ many ≤ 12 ∧ 1 ≤ most ∧ most ≤ 12 ∧ ∀ (l : Addr) (ws : List Str) H', Tape H' t c → Rd.But t H H' → H l = none → H' l = some (.lst (ws.map V.str)) → ws.Nodup → (ws.length : Int) ≤ many → (∀ y ∈ ws, Lt.Wd most y) → (1 ≤ many → ws ≠ []) → Q (.ref l) H'
def sp_l_mixed (K : PySem.W.Frag) : Sp := fun vs H Q _ => ∃ (t c a : Addr) (ws : List Str), vs = [.ref t, .ref a] ∧ Tape H t c ∧ a ≠ t ∧ SqL K H a (ws.map V.str) ∧ ws.length ≤ 1000 ∧ ∀ (l : Addr) (us : List Str) H', Tape H' t c → Rd.But t H H' → H l = none → H' l = some (.lst (us.map V.str)) → us.Perm ws → Q (.ref l) H'
theorem ok_l_letters (T : Txt K mg) : FnOk P w K mg base CX0 2 T.f_l_letters T.fd_l_letters ["_law_tape_here", "_law_many"] (sp_l_letters K) := by
  refine T.F_l_letters.ok sc_l_letters (fun vs H Q E h => ?_) (fun cdv A outer s H vs Q E hr h => ?_)
  · obtain ⟨t, c, m, rfl, _⟩ := h
    rfl
  · obtain ⟨t, c, m, rfl, tp, m0, m1, k⟩ := h
    refine ⟨_, (pss_cons (ps_set (i := 2) sc_l_letters.nd rfl (.inr rfl) (pe_call (ok_l_pick T) (hr.mono (by decide)) rfl T.g_l_pick T.F_l_pick.kp T.b_l_pick .nil pass0 (pa_cons (pv 0) (pa_cons pe_int pa_nil))))
  (pss_cons (ps_set (i := 3) sc_l_letters.nd rfl (.inr rfl) (pe_ix (r := rIxL K) ix_list (pe_lst (pa_cons pe_int (pa_cons pe_int (pa_cons pe_int (pa_cons pe_int (pa_cons pe_int (pa_cons pe_int pa_nil))))))) (pe_call (ok_l_pick T) (hr.mono (by decide)) rfl T.g_l_pick T.F_l_pick.kp T.b_l_pick .nil pass0 (pa_cons (pv 0) (pa_cons pe_int pa_nil))) (fun _ _ => rfl)))
  (pss_one (ps_ret (pe_lc (own := [("_law_k", 4)]) (g := gName 4) (tt := tYes) rfl sc_l_letters.nd (pi_range1 rfl T.n_range (pa_cons (pv 1) pa_nil)) (blkOk_by (own := [("_law_k", 4)]) (N := ["_law_tape_here", "_law_many", "_law_start", "_law_step", "_law_k"]) (sc := defScope s_l_letters) (by decide +kernel)) (fun _ _ _ _ _ => (pg_name (i := 4) sc_l_letters.nd rfl (.inl rfl))) (fun _ _ _ _ _ => pts_nil) (fun _ _ _ _ _ => (pe_ix ix_str pe_str (pe_op op_mod (pe_callTy (T := "int") (r := _) Rd.c_int (by rfl) T.n_int (by decide +kernel) (pa_cons (pe_op op_add (pv 2) (pe_op op_mul (pv 3) (pv 4))) pa_nil)) pe_int) (fun _ _ => rfl)))))))), ?_⟩
    walk_at "rd"
    refine pickR tp (by decide) (by decide) fun st H1 st0 st1 tp1 b1 => ?_
    walk_at "rd"
    refine ⟨Nat.le_of_ble_eq_true rfl, Rd.new fun p G2 np gp s2 => ?_⟩
    walk_at "rd"
    refine pickR (tp1.same s2) (by decide) (by decide) fun sp H3 sp0 sp1 tp3 b3 => ?_
    have pt : p ≠ t := (tp1.new np).1
    obtain ⟨step, hm, q0⟩ : ∃ m, [V.int 1, .int 3, .int 5, .int 7, .int 9, .int 11][sp.toNat]? = some (.int m) ∧ (m = 1 ∨ m = 3 ∨ m = 5 ∨ m = 7 ∨ m = 9 ∨ m = 11) := by
      have : sp.toNat = 0 ∨ sp.toNat = 1 ∨ sp.toNat = 2 ∨ sp.toNat = 3 ∨ sp.toNat = 4 ∨ sp.toNat = 5 := by omega
      rcases this with e | e | e | e | e | e <;> rw [e] <;> exact ⟨_, rfl, by decide⟩
    refine Rd.ixL (.of (b3 p _ pt gp)) (Rd.atI_of sp0 hm) ?_
    walk_at "rd"
    refine ⟨by omega, by omega, ?_⟩
    refine Rd.lcS walk_range (fun _ _ => trivial) (fun D i acc _ => ∃ ys : List Str, acc = ys.map V.str ∧ ys.length = i ∧ Ones ys ∧ ∀ (j : Nat) (y : Str), ys[j]? = some y → ∃ c, y = (⟨#[c]⟩ : Str) ∧ Lt.Abc.cps.toList[((st + step * (0 + (j : Int))) % 26).toNat]? = some c) (fun _ _ _ _ _ => ⟨[], rfl, rfl, Ones.nil, fun j y h => by simp at h⟩) ?_ ?_
    · rintro D i x G _ acc nD hi hD sm ⟨ys, rfl, yl, hy, ya⟩ ⟨rfl, rfl⟩
      walk_at "rd"
      refine ⟨rfl, ?_⟩
      walk_at "rd"
      refine Rd.iC (.inl ⟨by omega, by omega⟩) ?_
      walk_at "rd"
      refine Rd.iC (by decide) ?_
      have e0 : 0 ≤ (st + step * (0 + (i : Int))) % 26 := Int.emod_nonneg _ (by decide)
      have e1 : (st + step * (0 + (i : Int))) % 26 < 26 := Int.emod_lt_of_pos _ (by decide)
      obtain ⟨ch, e, hc⟩ := abc_at2 e0 e1
      refine Rd.ixS (by decide +kernel) (Rd.atI_of e0 e) ?_
      refine Rd.lcPush hD nD sm (by rw [List.length_map, yl, sizeLine_eq]; omega) fun G2 g2 off2 => ?_
      refine ⟨ys ++ [⟨#[ch]⟩], by rw [List.map_append]; rfl, by rw [List.length_append, yl]; rfl, hy.snoc hc, fun j y h => ?_⟩
      rcases Nat.lt_or_ge j ys.length with c | c
      · rw [List.getElem?_append_left c] at h
        exact ya j y h
      · rw [List.getElem?_append_right c] at h
        have : j = i := by
          have := (List.getElem?_eq_some_iff.mp h).1
          rw [List.length_singleton] at this
          omega
        subst this
        rw [yl, Nat.sub_self] at h
        exact ⟨ch, (Option.some.inj h).symm, e⟩
    · rintro D acc G nD hD sm ⟨ys, rfl, yl, hy, ya⟩
      have nD0 := b3.free (tp3.new nD).1 nD
      have nD1 := s2.free nD0
      refine k D ys G (tp3.same sm) (((b1.same s2).trans b3).same sm) (b1.free (tp1.new nD1).1 nD1) hD (by omega) hy fun few => ?_
      rw [List.nodup_iff_pairwise_ne, List.pairwise_iff_getElem]
      intro i j hi hj lt e
      obtain ⟨c, ec, ac⟩ := ya i _ (List.getElem?_eq_getElem hi)
      obtain ⟨d, ed, ad⟩ := ya j _ (List.getElem?_eq_getElem hj)
      have cd : c = d := by
        have := (ec.symm.trans e).trans ed
        have := congrArg (fun z : Str => z.cps.toList) this
        exact (List.cons.inj this).1
      subst cd
      have f0 := Int.emod_nonneg (st + step * (0 + (i : Int))) (show (26 : Int) ≠ 0 by decide)
      have g0 := Int.emod_nonneg (st + step * (0 + (j : Int))) (show (26 : Int) ≠ 0 by decide)
      have same := abc_inj2 f0 g0 ac ad
      rcases q0 with rfl | rfl | rfl | rfl | rfl | rfl <;> omega
theorem ok_l_word (T : Txt K mg) : FnOk P w K mg base CX0 3 T.f_l_word T.fd_l_word ["_law_tape_here", "_law_most"] (sp_l_word K) := by
  refine T.F_l_word.ok sc_l_word (fun vs H Q E h => ?_) (fun cdv A outer s H vs Q E hr h => ?_)
  · obtain ⟨t, c, m, rfl, _⟩ := h
    rfl
  · obtain ⟨t, c, m, rfl, tp, m0, m1, k⟩ := h
    refine ⟨_, (pss_cons (ps_set (i := 2) sc_l_word.nd rfl (.inl rfl) (pe_op op_add pe_int (pe_call (ok_l_pick T) (hr.mono (by decide)) rfl T.g_l_pick T.F_l_pick.kp T.b_l_pick .nil pass0 (pa_cons (pv 0) (pa_cons (pv 1) pa_nil)))))
  (pss_cons (ps_set (i := 3) sc_l_word.nd rfl (.inl rfl) (pe_call (ok_l_pick T) (hr.mono (by decide)) rfl T.g_l_pick T.F_l_pick.kp T.b_l_pick .nil pass0 (pa_cons (pv 0) (pa_cons pe_int pa_nil))))
  (pss_cons (ps_set (i := 4) sc_l_word.nd rfl (.inr rfl) (pe_call (ok_l_letters T) (hr.mono (by decide)) rfl T.g_l_letters T.F_l_letters.kp T.b_l_letters .nil pass0 (pa_cons (pv 0) (pa_cons (pe_op op_add pe_int (pe_callB (id := "min") (r := _) (Rd.c_min2 rfl) (by rfl) T.n_min (by decide +kernel) (pa_cons (pv 3) (pa_cons pe_int pa_nil)))) pa_nil))))
  (pss_cons (ps_if (pt_cmpR op_eq (pv 3) pe_int (nomark _))
  (pss_cons (ps_set (i := 5) sc_l_word.nd rfl (.inr rfl) (pe_lc (own := [("_law_k", 6)]) (g := gName 6) (tt := tYes) rfl sc_l_word.nd (pi_range1 rfl T.n_range (pa_cons (pe_op op_add pe_int (pe_call (ok_l_pick T) (hr.mono (by decide)) rfl T.g_l_pick T.F_l_pick.kp T.b_l_pick .nil pass0 (pa_cons (pv 0) (pa_cons pe_int pa_nil)))) pa_nil)) (blkOk_by (own := [("_law_k", 6)]) (N := ["_law_tape_here", "_law_most", "_law_size", "_law_kind", "_law_letters_here", "_law_part", "_law_k"]) (sc := defScope s_l_word) (by decide +kernel)) (fun _ _ _ _ _ => (pg_name (i := 6) sc_l_word.nd rfl (.inl rfl))) (fun _ _ _ _ _ => pts_nil) (fun _ _ _ _ _ => (pe_ix (r := rIxL K) ix_list (pv 4) (pe_call (ok_l_pick T) (hr.mono (by decide)) rfl T.g_l_pick T.F_l_pick.kp T.b_l_pick .nil pass0 (pa_cons (pv 0) (pa_cons pe_int pa_nil))) (fun _ _ => rfl)))))
  (pss_one (ps_ret (pe_join pe_str (pe_lc (own := [("_law_k", 6)]) (g := gName 6) (tt := tYes) rfl sc_l_word.nd (pi_range1 rfl T.n_range (pa_cons (pv 2) pa_nil)) (blkOk_by (own := [("_law_k", 6)]) (N := ["_law_tape_here", "_law_most", "_law_size", "_law_kind", "_law_letters_here", "_law_part", "_law_k"]) (sc := defScope s_l_word) (by decide +kernel)) (fun _ _ _ _ _ => (pg_name (i := 6) sc_l_word.nd rfl (.inl rfl))) (fun _ _ _ _ _ => pts_nil) (fun _ _ _ _ _ => (pe_ix (r := rIxL K) ix_list (pv 5) (pe_op op_mod (pe_callTy (T := "int") (r := _) Rd.c_int (by rfl) T.n_int (by decide +kernel) (pa_cons (pv 6) pa_nil)) (pe_callB (id := "len") (r := Rd.nLen K) Rd.c_len (by rfl) T.n_len (by decide +kernel) (pa_cons (pv 5) pa_nil))) (fun _ _ => rfl))))))))
  pss_nil)
  (pss_one (ps_ret (pe_join pe_str (pe_lc (own := [("_law_k", 6)]) (g := gName 6) (tt := tYes) rfl sc_l_word.nd (pi_range1 rfl T.n_range (pa_cons (pv 2) pa_nil)) (blkOk_by (own := [("_law_k", 6)]) (N := ["_law_tape_here", "_law_most", "_law_size", "_law_kind", "_law_letters_here", "_law_part", "_law_k"]) (sc := defScope s_l_word) (by decide +kernel)) (fun _ _ _ _ _ => (pg_name (i := 6) sc_l_word.nd rfl (.inl rfl))) (fun _ _ _ _ _ => pts_nil) (fun _ _ _ _ _ => (pe_ix (r := rIxL K) ix_list (pv 4) (pe_call (ok_l_pick T) (hr.mono (by decide)) rfl T.g_l_pick T.F_l_pick.kp T.b_l_pick .nil pass0 (pa_cons (pv 0) (pa_cons (pe_callB (id := "len") (r := Rd.nLen K) Rd.c_len (by rfl) T.n_len (by decide +kernel) (pa_cons (pv 4) pa_nil)) pa_nil))) (fun _ _ => rfl))))))))))), ?_⟩
    walk_at "rd"
    refine pickR tp (by omega) (by omega) fun sz H1 sz0 sz1 tp1 b1 => ?_
    walk_at "rd"
    refine pickR tp1 (by decide) (by decide) fun kd H2 k0 k1 tp2 b2 => ?_
    walk_at "rd"
    refine ⟨t, c, 1 + min kd 2, rfl, tp2, by omega, by omega, fun l ys H3 tp3 b3 nl gl yl hy _ => ?_⟩
    have ⟨lt, lc⟩ := tp2.new nl
    have b03 := (b1.trans b2).trans b3
    walk_at "rd"
    refine ite2 (fun q => ?_) (fun q => ?_)
    · walk_at "rd"
      refine pickR tp3 (by decide) (by decide) fun r H4 r0 r1 tp4 b4 => ?_
      have gl4 := b4 l _ lt gl
      walk_at "rd"
      refine ⟨by omega, by omega, ?_⟩
      refine lcT walk_range tp4 (fun _ _ => trivial) (fun D i acc _ => ∃ us : List Str, acc = us.map V.str ∧ us.length = i ∧ Ones us) (fun _ _ _ _ _ => ⟨[], rfl, rfl, Ones.nil⟩) ?_ ?_
      · rintro D i x G _ acc nD hi hD tpG bG ⟨us, rfl, ul, hu⟩ ⟨rfl, rfl⟩
        walk_at "rd"
        refine ⟨rfl, ?_⟩
        walk_at "rd"
        refine pickR tpG (by decide) (by decide) fun r5 H5 r50 r51 tp5 b5 => ?_
        have gl5 := b5 l _ lt (bG l _ lt gl4)
        have dt := (tp4.new nD).1
        have i5 : r5.toNat < ys.length := by omega
        refine Rd.ixL (.of gl5) (Rd.atI_of r50 (Rd.map_str i5)) ?_
        refine lcPuT (b5 D _ dt hD) nD tp4 tp5 (bG.trans b5) (by rw [List.length_map, ul, sizeLine_eq]; omega) fun G2 g2 off2 => ?_
        exact ⟨us ++ [ys[r5.toNat]], by rw [List.map_append]; rfl, by rw [List.length_append, ul]; rfl, hu.snoc' (hy _ (List.getElem_mem i5))⟩
      · rintro D acc G nD hD tpG bG ⟨us, rfl, ul, hu⟩
        walk_at "rd"
        refine ⟨by omega, by omega, ?_⟩
        refine Rd.lcS walk_range (fun _ _ => trivial) (fun D2 i acc _ => ∃ vs : List Str, acc = vs.map V.str ∧ vs.length = i ∧ Ones vs) (fun _ _ _ _ _ => ⟨[], rfl, rfl, Ones.nil⟩) ?_ ?_
        · rintro D2 i x G1 _ acc nD2 hi hD2 sm ⟨vs, rfl, vl, hv⟩ ⟨rfl, rfl⟩
          walk_at "rd"
          refine ⟨rfl, ?_⟩
          walk_at "rd"
          have hD1 := sm _ _ hD
          refine Rd.len (.inl (.of hD1)) ?_
          rw [List.length_map]
          walk_at "rd"
          refine Rd.iC (by omega) ?_
          have e0 : 0 ≤ (0 + (i : Int)) % (us.length : Int) := Int.emod_nonneg _ (by omega)
          have e1 : (0 + (i : Int)) % (us.length : Int) < us.length := Int.emod_lt_of_pos _ (by omega)
          generalize (0 + (i : Int)) % (us.length : Int) = j at e0 e1
          have j1 : j.toNat < us.length := by omega
          refine Rd.ixL (.of hD1) (Rd.atI_of e0 (Rd.map_str j1)) ?_
          refine Rd.lcPush hD2 nD2 sm (by rw [List.length_map, vl, sizeLine_eq]; omega) fun G2 g2 off2 => ?_
          exact ⟨vs ++ [us[j.toNat]], by rw [List.map_append]; rfl, by rw [List.length_append, vl]; rfl, hv.snoc' (hu _ (List.getElem_mem j1))⟩
        · rintro D2 acc G1 nD2 hD2 sm ⟨vs, rfl, vl, hv⟩
          have j := Lt.join_one (ys := vs) rfl hv
          refine Rd.join (.inl (.of hD2)) (by rw [j.2.2, show (Str.ofString "").length = 0 by decide +kernel]; omega) ?_
          exact k _ _ ⟨j.1, by rw [j.2.1]; omega, by rw [j.2.1]; omega⟩ (tpG.same sm) (((b03.trans b4).trans bG).same sm)
    · walk_at "rd"
      refine ⟨by omega, by omega, ?_⟩
      refine lcT walk_range tp3 (fun _ _ => trivial) (fun D i acc _ => ∃ us : List Str, acc = us.map V.str ∧ us.length = i ∧ Ones us) (fun _ _ _ _ _ => ⟨[], rfl, rfl, Ones.nil⟩) ?_ ?_
      · rintro D i x G _ acc nD hi hD tpG bG ⟨us, rfl, ul, hu⟩ ⟨rfl, rfl⟩
        walk_at "rd"
        refine ⟨rfl, ?_⟩
        walk_at "rd"
        have glG := bG l _ lt gl
        refine Rd.len (.inl (.of glG)) ?_
        rw [List.length_map]
        walk_at "rd"
        refine pickR tpG (by omega) (by omega) fun r5 H5 r50 r51 tp5 b5 => ?_
        have gl5 := b5 l _ lt glG
        have dt := (tp3.new nD).1
        have i5 : r5.toNat < ys.length := by omega
        refine Rd.ixL (.of gl5) (Rd.atI_of r50 (Rd.map_str i5)) ?_
        refine lcPuT (b5 D _ dt hD) nD tp3 tp5 (bG.trans b5) (by rw [List.length_map, ul, sizeLine_eq]; omega) fun G2 g2 off2 => ?_
        exact ⟨us ++ [ys[r5.toNat]], by rw [List.map_append]; rfl, by rw [List.length_append, ul]; rfl, hu.snoc' (hy _ (List.getElem_mem i5))⟩
      · rintro D acc G nD hD tpG bG ⟨us, rfl, ul, hu⟩
        have j := Lt.join_one (ys := us) rfl hu
        refine Rd.join (.inl (.of hD)) (by rw [j.2.2, show (Str.ofString "").length = 0 by decide +kernel]; omega) ?_
        exact k _ _ ⟨j.1, by rw [j.2.1]; omega, by rw [j.2.1]; omega⟩ tpG (b03.trans bG)
theorem ok_l_watch (T : Txt K mg) : FnOk P w K mg base CX0 2 T.f_l_watch T.fd_l_watch ["_law_tape_here", "_law_word_here", "_law_most"] (sp_l_watch K) := by
  refine T.F_l_watch.ok sc_l_watch (fun vs H Q E h => ?_) (fun cdv A outer s H vs Q E hr h => ?_)
  · obtain ⟨t, c, z, m, rfl, _⟩ := h
    rfl
  · obtain ⟨t, c, z, m, rfl, tp, hz, m0, m1, k⟩ := h
    refine ⟨_, (pss_cons (ps_set (i := 3) sc_l_watch.nd rfl (.inl rfl) (pe_op op_add pe_int (pe_call (ok_l_pick T) (hr.mono (by decide)) rfl T.g_l_pick T.F_l_pick.kp T.b_l_pick .nil pass0 (pa_cons (pv 0) (pa_cons (pe_callB (id := "min") (r := _) (Rd.c_min2 rfl) (by rfl) T.n_min (by decide +kernel) (pa_cons (pv 2) (pa_cons (pe_callB (id := "len") (r := _) Rd.c_lenS (by rfl) T.n_len (by decide +kernel) (pa_cons (pv 1) pa_nil)) pa_nil))) pa_nil)))))
  (pss_cons (ps_set (i := 4) sc_l_watch.nd rfl (.inl rfl) (pe_call (ok_l_pick T) (hr.mono (by decide)) rfl T.g_l_pick T.F_l_pick.kp T.b_l_pick .nil pass0 (pa_cons (pv 0) (pa_cons (pe_op op_add (pe_op op_sub (pe_callB (id := "len") (r := _) Rd.c_lenS (by rfl) T.n_len (by decide +kernel) (pa_cons (pv 1) pa_nil)) (pv 3)) pe_int) pa_nil))))
  (pss_cons (ps_if (pt_cmpR op_gt (pe_call (ok_l_pick T) (hr.mono (by decide)) rfl T.g_l_pick T.F_l_pick.kp T.b_l_pick .nil pass0 (pa_cons (pv 0) (pa_cons pe_int pa_nil))) pe_int (nomark _))
  (pss_one (ps_ret (pe_slice sl_str (pv 1) (po_some (pv 4)) (po_some (pe_op op_add (pv 4) (pv 3))))))
  pss_nil)
  (pss_one (ps_ret (pe_join pe_str (pe_lc (own := [("_law_k", 5)]) (g := gName 5) (tt := tYes) rfl sc_l_watch.nd (pi_range1 rfl T.n_range (pa_cons (pv 3) pa_nil)) (blkOk_by (own := [("_law_k", 5)]) (N := ["_law_tape_here", "_law_word_here", "_law_most", "_law_size", "_law_at", "_law_k"]) (sc := defScope s_l_watch) (by decide +kernel)) (fun _ _ _ _ _ => (pg_name (i := 5) sc_l_watch.nd rfl (.inl rfl))) (fun _ _ _ _ _ => pts_nil) (fun _ _ _ _ _ => (pe_ix ix_str (pv 1) (pe_call (ok_l_pick T) (hr.mono (by decide)) rfl T.g_l_pick T.F_l_pick.kp T.b_l_pick .nil pass0 (pa_cons (pv 0) (pa_cons (pe_callB (id := "len") (r := _) Rd.c_lenS (by rfl) T.n_len (by decide +kernel) (pa_cons (pv 1) pa_nil)) pa_nil))) (fun _ _ => rfl)))))))))), ?_⟩
    have zl : z.length ≤ sizeLine := hz.line (by decide)
    have z0 := hz.l0
    have z1 := hz.l1
    walk_at "rd"
    refine Rd.lenStr zl ?_
    walk_at "rd"
    refine pickR tp (by omega) (by omega) fun sz H1 sz0 sz1 tp1 b1 => ?_
    walk_at "rd"
    refine Rd.lenStr zl ?_
    walk_at "rd"
    refine pickR tp1 (by omega) (by omega) fun st H2 st0 st1 tp2 b2 => ?_
    walk_at "rd"
    refine pickR tp2 (by decide) (by decide) fun r H3 r0 r1 tp3 b3 => ?_
    have b03 := (b1.trans b2).trans b3
    walk_at "rd"
    refine ite2 (fun q => ?_) (fun q => ?_)
    · walk_at "rd"
      refine Rd.slS zl ?_
      have e := Lt.cut_lenI (z := z) (a := st) (b := st + (1 + sz)) st0 (by omega) (by omega)
      exact k _ _ ⟨hz.ok.cut _ _, by omega, by omega⟩ tp3 b03
    · walk_at "rd"
      refine ⟨by omega, by omega, ?_⟩
      refine lcT walk_range tp3 (fun _ _ => trivial) (fun D i acc _ => ∃ us : List Str, acc = us.map V.str ∧ us.length = i ∧ Ones us) (fun _ _ _ _ _ => ⟨[], rfl, rfl, Ones.nil⟩) ?_ ?_
      · rintro D i x G _ acc nD hi hD tpG bG ⟨us, rfl, ul, hu⟩ ⟨rfl, rfl⟩
        walk_at "rd"
        refine ⟨rfl, ?_⟩
        walk_at "rd"
        refine Rd.lenStr zl ?_
        walk_at "rd"
        refine pickR tpG (by omega) (by omega) fun r5 H5 r50 r51 tp5 b5 => ?_
        have dt := (tp3.new nD).1
        obtain ⟨ch, e, hc⟩ := let_get hz.ok r50 r51
        refine Rd.ixS zl e ?_
        refine lcPuT (b5 D _ dt hD) nD tp3 tp5 (bG.trans b5) (by rw [List.length_map, ul, sizeLine_eq]; omega) fun G2 g2 off2 => ?_
        exact ⟨us ++ [⟨#[ch]⟩], by rw [List.map_append]; rfl, by rw [List.length_append, ul]; rfl, hu.snoc hc⟩
      · rintro D acc G nD hD tpG bG ⟨us, rfl, ul, hu⟩
        have j := Lt.join_one (ys := us) rfl hu
        refine Rd.join (.inl (.of hD)) (by rw [j.2.2, show (Str.ofString "").length = 0 by decide +kernel]; omega) ?_
        exact k _ _ ⟨j.1, by rw [j.2.1]; omega, by rw [j.2.1]; omega⟩ tpG (b03.trans bG)

end
end W

namespace W
open PySem PySem.Spec PyProof.Rows L2
section
variable {P : Program} {w : World} {K : PySem.W.Frag} {mg : Str → Option Value} {base : Heap}
theorem snoc_all {α : Type} {P : α → Prop} {ws : List α} {y : α} (h : ∀ x ∈ ws, P x) (q : P y) : ∀ x ∈ ws ++ [y], P x := fun x hx => by
  rcases List.mem_append.mp hx with h1 | h1
  · exact h x h1
  · simp at h1
    rw [h1]
    exact q
theorem perm_erase {α : Type} : ∀ {l : List α} {i : Nat} (h : i < l.length), (l[i] :: l.eraseIdx i).Perm l
  | a :: r, 0, _ => List.Perm.refl _
  | a :: r, i + 1, h => by
    have h' : i < r.length := by simpa using h
    have ih := perm_erase (l := r) (i := i) h'
    show (r[i] :: a :: r.eraseIdx i).Perm (a :: r)
    exact (List.Perm.swap a r[i] _).trans (ih.cons a)
theorem ok_l_watches (T : Txt K mg) : FnOk P w K mg base CX0 3 T.f_l_watches T.fd_l_watches ["_law_tape_here", "_law_word_here", "_law_many", "_law_most"] (sp_l_watches K) := by
  refine T.F_l_watches.ok sc_l_watches (fun vs H Q E h => ?_) (fun cdv A outer s H vs Q E hr h => ?_)
  · obtain ⟨t, c, z, many, most, rfl, _⟩ := h
    rfl
  · obtain ⟨t, c, z, many, most, rfl, tp, hz, m0, m1, n0, n1, k⟩ := h
    refine ⟨_, (pss_cons (ps_set (i := 4) sc_l_watches.nd rfl (.inl rfl) (pe_lst pa_nil))
  (C8.pss_cut (ps_if (PW.pt (pw_and (pt_cmpR op_gt (pv 2) pe_int (nomark _)) (pw_and (pt_cmpR op_gt (pe_callB (id := "len") (r := _) Rd.c_lenS (by rfl) T.n_len (by decide +kernel) (pa_cons (pv 1) pa_nil)) pe_int (nomark _)) (pw_and1 (pt_cmpR op_eq (pe_call (ok_l_pick T) (hr.mono (by decide)) rfl T.g_l_pick T.F_l_pick.kp T.b_l_pick .nil pass0 (pa_cons (pv 0) (pa_cons pe_int pa_nil))) pe_int (nomark _))))))
  (pss_cons (ps_set (i := 5) sc_l_watches.nd rfl (.inl rfl) (pe_op op_add pe_int (pe_call (ok_l_pick T) (hr.mono (by decide)) rfl T.g_l_pick T.F_l_pick.kp T.b_l_pick .nil pass0 (pa_cons (pv 0) (pa_cons (pe_op op_sub (pe_callB (id := "len") (r := _) Rd.c_lenS (by rfl) T.n_len (by decide +kernel) (pa_cons (pv 1) pa_nil)) pe_int) pa_nil)))))
  (pss_cons (ps_set (i := 6) sc_l_watches.nd rfl (.inl rfl) (pe_op op_add (pe_op op_add (pv 5) pe_int) (pe_call (ok_l_pick T) (hr.mono (by decide)) rfl T.g_l_pick T.F_l_pick.kp T.b_l_pick .nil pass0 (pa_cons (pv 0) (pa_cons (pe_op op_sub (pe_op op_sub (pe_callB (id := "len") (r := _) Rd.c_lenS (by rfl) T.n_len (by decide +kernel) (pa_cons (pv 1) pa_nil)) (pv 5)) pe_int) pa_nil)))))
  (pss_cons (ps_for PassesOwn.never rfl (pi_list (pe_lst (pa_cons (pe_slice sl_str (pv 1) po_none (po_some (pv 6))) (pa_cons (pe_slice sl_str (pv 1) (po_some (pv 5)) (po_some (pv 6))) (pa_cons (pe_slice sl_str (pv 1) (po_some (pv 5)) po_none) pa_nil))))) (pg_name (i := 7) sc_l_watches.nd rfl (.inl rfl))
  (pss_one (ps_if (PW.pt (pw_and (pt_cmpR op_le (pe_callB (id := "len") (r := _) Rd.c_lenS (by rfl) T.n_len (by decide +kernel) (pa_cons (pv 7) pa_nil)) (pv 3) (nomark _)) (pw_and1 (pt_cmpR (r := rIn K true) op_notIn_seq (pv 7) (pv 4) (by rfl)))))
  (pss_one (ps_expr (pe_bm PySem.F.plainAttrs_list PySem.F.slot_list_append PySem.F.type_list_append mt_append (pv 4) (pa_cons (pv 7) pa_nil))))
  pss_nil)))
  (pss_one (ps_if (PW.pt (pw_and (pt_cmpR op_eq (pe_callB (id := "len") (r := Rd.nLen K) Rd.c_len (by rfl) T.n_len (by decide +kernel) (pa_cons (pv 4) pa_nil)) pe_int (nomark _)) (pw_and1 (pt_cmpR op_gt (pe_call (ok_l_pick T) (hr.mono (by decide)) rfl T.g_l_pick T.F_l_pick.kp T.b_l_pick .nil pass0 (pa_cons (pv 0) (pa_cons pe_int pa_nil))) pe_int (nomark _)))))
  (pss_one (ps_ret (pv 4)))
  pss_nil)))))
  pss_nil)
  (pss_cons (ps_for PassesOwn.never rfl (pi_range1 rfl T.n_range (pa_cons (pe_op op_sub (pv 2) (pe_callB (id := "len") (r := Rd.nLen K) Rd.c_len (by rfl) T.n_len (by decide +kernel) (pa_cons (pv 4) pa_nil))) pa_nil)) (pg_name (i := 8) sc_l_watches.nd rfl (.inl rfl))
  (pss_cons (ps_set (i := 9) sc_l_watches.nd rfl (.inl rfl) (pe_call (ok_l_watch T) (hr.mono (by decide)) rfl T.g_l_watch T.F_l_watch.kp T.b_l_watch .nil pass0 (pa_cons (pv 0) (pa_cons (pv 1) (pa_cons (pv 3) pa_nil)))))
  (pss_one (ps_if (pt_cmpR (r := rIn K true) op_notIn_seq (pv 9) (pv 4) (by rfl))
  (pss_one (ps_expr (pe_bm PySem.F.plainAttrs_list PySem.F.slot_list_append PySem.F.type_list_append mt_append (pv 4) (pa_cons (pv 9) pa_nil))))
  pss_nil))))
  (pss_one (ps_ret (pv 4)))))), ?_⟩
    have zl : z.length ≤ sizeLine := hz.line (by decide)
    have z0 := hz.l0
    have z1 := hz.l1
    walk_at "rd"
    refine ⟨Nat.zero_le _, Rd.new fun l G nl gl sG => ?_⟩
    have ⟨lt, lc⟩ := tp.new nl
    walk_at "rd"
    refine Rd.cut (fun σ H' => ∃ (ws : List Str) (o5 o6 o7 : Option V), σ = [some (.ref t), some (.str z), some (.int many), some (.int most), some (.ref l), o5, o6, o7, none, none] ∧ Tape H' t c ∧ Rd.But t H H' ∧ H' l = some (.lst (ws.map V.str)) ∧ ws.Nodup ∧ (ws.length : Int) ≤ many ∧ ∀ y ∈ ws, Lt.Wd most y) ?_ ?_
    · walk_at "rd"
      refine ite2 (fun q1 => ?_) (fun q1 => ?_)
      · walk_at "rd"
        refine Rd.lenStr zl ?_
        walk_at "rd"
        refine ite2 (fun q2 => ?_) (fun q2 => ?_)
        · walk_at "rd"
          refine pickR (tp.same sG) (by decide) (by decide) fun r H1 r0 r1 tp1 b1 => ?_
          have gl1 := b1 l _ lt gl
          have b01 : Rd.But t H H1 := (Rd.But.of sG).trans b1
          walk_at "rd"
          refine ite2 (fun q3 => ?_) (fun q3 => ?_)
          · walk_at "rd"
            refine Rd.lenStr zl ?_
            walk_at "rd"
            refine pickR tp1 (by omega) (by omega) fun lo H2 lo0 lo1 tp2 b2 => ?_
            walk_at "rd"
            refine Rd.lenStr zl ?_
            walk_at "rd"
            refine pickR tp2 (by omega) (by omega) fun hi H3 hi0 hi1 tp3 b3 => ?_
            have gl3 := b3 l _ lt (b2 l _ lt gl1)
            have b03 := (b01.trans b2).trans b3
            walk_at "rd"
            refine Rd.forS ?_
            walk_at "rd"
            refine Rd.slS zl ?_
            walk_at "rd"
            refine Rd.slS zl ?_
            walk_at "rd"
            refine Rd.slS zl ?_
            walk_at "rd"
            refine ⟨Nat.le_of_ble_eq_true rfl, Rd.new fun p H4 np gp s4 => ?_⟩
            have gl4 := s4 _ _ gl3
            have lp : p ≠ l := (ne_of_none gl3 np).symm
            have hP : ∀ y ∈ [cutS z none (some (1 + lo + 1 + hi)), cutS z (some (1 + lo)) (some (1 + lo + 1 + hi)), cutS z (some (1 + lo)) none], Lt.Let y ∧ 1 ≤ y.length := by
              have e1 := Lt.cut_to (z := z) (b := 1 + lo + 1 + hi) (by omega)
              have e2 := Lt.cut_lenI (z := z) (a := 1 + lo) (b := 1 + lo + 1 + hi) (by omega) (by omega) (by omega)
              have e3 := Lt.cut_from (z := z) (a := 1 + lo) (by omega) (by omega)
              intro y hy
              simp only [List.mem_cons, List.not_mem_nil, or_false] at hy
              rcases hy with rfl | rfl | rfl
              · exact ⟨hz.ok.cut _ _, by omega⟩
              · exact ⟨hz.ok.cut _ _, by omega⟩
              · exact ⟨hz.ok.cut _ _, by omega⟩
            have gpS : SqL K H4 p (([cutS z none (some (1 + lo + 1 + hi)), cutS z (some (1 + lo)) (some (1 + lo + 1 + hi)), cutS z (some (1 + lo)) none] : List Str).map V.str) := .of gp
            walk_at "rd"
            refine ⟨⟨_, gpS⟩, for_list (K := K) (a := p) (xs := ([cutS z none (some (1 + lo + 1 + hi)), cutS z (some (1 + lo)) (some (1 + lo + 1 + hi)), cutS z (some (1 + lo)) none] : List Str).map V.str) (fun i σ H' => ∃ (ws : List Str) (o7 : Option V), σ = [some (.ref t), some (.str z), some (.int many), some (.int most), some (.ref l), some (.int (1 + lo)), some (.int (1 + lo + 1 + hi)), o7, none, none] ∧ H' l = some (.lst (ws.map V.str)) ∧ (∀ b, b ≠ l → H' b = H4 b) ∧ ws.Nodup ∧ ws.length ≤ i ∧ ∀ y ∈ ws, Lt.Wd most y)
              ⟨[], none, rfl, gl4, fun b _ => rfl, .nil, Nat.le_refl _, fun _ h => by simp at h⟩ (fun i σ H' _ ⟨_, _, _, _, off, _⟩ => .of (by rw [off p lp]; exact gp)) ?_ ?_⟩
            · rintro i x _ H5 hx ⟨ws, o7, rfl, gl5, off5, nd, wl, hw⟩
              obtain ⟨y, hy, rfl⟩ := Rd.map_strG hx
              have il : i < 3 := (List.getElem?_eq_some_iff.mp hy).1
              have hy2 := hP y (List.mem_of_getElem? hy)
              walk_at "rd"
              refine Rd.lenStr (by
                have : y.length ≤ z.length := by
                  have := List.mem_of_getElem? hy
                  simp only [List.mem_cons, List.not_mem_nil, or_false] at this
                  rcases this with rfl | rfl | rfl <;> exact cutS_length _ _ _
                omega) ?_
              walk_at "rd"
              refine ite2 (fun q5 => ?_) (fun q5 => ?_)
              · walk_at "rd"
                refine Rd.inStrsN (.inl (.of gl5)) ?_
                walk_at "rd"
                refine ite2 (fun q6 => ?_) (fun q6 => ?_)
                · walk_at "rd"
                  exact ⟨ws, _, rfl, gl5, off5, nd, by omega, hw⟩
                · walk_at "rd"
                  refine Rd.tyL (.of gl5) ?_
                  walk_at "rd"
                  refine Rd.app gl5 (by rw [List.length_map, sizeLine_eq]; omega) fun G6 g6 off6 => ?_
                  walk_at "rd"
                  exact ⟨ws ++ [y], _, rfl, by rw [List.map_append]; exact g6, fun b hb => by rw [off6 b hb]; exact off5 b hb, snoc_nodup nd q6, by rw [List.length_append]; exact Nat.succ_le_succ wl, snoc_all hw ⟨hy2.1, hy2.2, q5⟩⟩
              · walk_at "rd"
                exact ⟨ws, _, rfl, gl5, off5, nd, by omega, hw⟩
            · rintro _ H5 ⟨ws, o7, rfl, gl5, off5, nd, wl, hw⟩
              have wl : ws.length ≤ 3 := wl
              have tp5 : Tape H5 t c := (tp3.same s4).off lt lc off5
              have b05 : Rd.But t H H5 := but_off (b03.same s4) nl off5
              walk_at "rd"
              refine Rd.len (.inl (.of gl5)) ?_
              rw [List.length_map]
              walk_at "rd"
              refine ite2 (fun q5 => ?_) (fun q5 => ?_)
              · walk_at "rd"
                refine pickR tp5 (by decide) (by decide) fun r6 H6 r60 r61 tp6 b6 => ?_
                have gl6 := b6 l _ lt gl5
                walk_at "rd"
                refine ite2 (fun q6 => ?_) (fun q6 => ?_)
                · walk_at "rd"
                  exact k l ws H6 tp6 (b05.trans b6) nl gl6 nd (by omega) hw (fun _ e => by rw [e] at q5; simp at q5)
                · walk_at "rd"
                  exact ⟨ws, _, _, _, rfl, tp6, b05.trans b6, gl6, nd, by omega, hw⟩
              · walk_at "rd"
                exact ⟨ws, _, _, _, rfl, tp5, b05, gl5, nd, by omega, hw⟩
          · walk_at "rd"
            exact ⟨[], _, _, _, rfl, tp1, b01, gl1, .nil, m0, fun _ h => by simp at h⟩
        · walk_at "rd"
          exact ⟨[], _, _, _, rfl, tp.same sG, Rd.But.of sG, gl, .nil, m0, fun _ h => by simp at h⟩
      · walk_at "rd"
        exact ⟨[], _, _, _, rfl, tp.same sG, Rd.But.of sG, gl, .nil, m0, fun _ h => by simp at h⟩
    · rintro _ H1 ⟨ws0, o5, o6, o7, rfl, tp1, b1, gl1, nd, wl, hw⟩
      walk_at "rd"
      refine Rd.forS ?_
      walk_at "rd"
      refine Rd.len (.inl (.of gl1)) ?_
      rw [List.length_map]
      walk_at "rd"
      refine ⟨by omega, by omega, ?_⟩
      refine for_range (lo := 0) (n := (many - (ws0.length : Int)).toNat) (fun i σ H' => ∃ (ws : List Str) (o8 o9 : Option V), σ = [some (.ref t), some (.str z), some (.int many), some (.int most), some (.ref l), o5, o6, o7, o8, o9] ∧ Tape H' t c ∧ Rd.But t H H' ∧ H' l = some (.lst (ws.map V.str)) ∧ ws.Nodup ∧ ws.length ≤ ws0.length + i ∧ (∀ y ∈ ws, Lt.Wd most y) ∧ (1 ≤ ws0.length + i → ws ≠ []))
        ⟨ws0, none, none, rfl, tp1, b1, gl1, nd, Nat.le_refl _, hw, fun p e => by rw [e] at p; simp at p⟩ ?_ ?_
      · rintro i _ H2 hi ⟨ws, o8, o9, rfl, tp2, b2, gl2, nd, wl2, hw, wn⟩
        walk_at "rd"
        refine ⟨t, c, z, most, rfl, tp2, hz, n0, by omega, fun y H3 hy tp3 b3 => ?_⟩
        have gl3 := b3 l _ lt gl2
        walk_at "rd"
        refine Rd.inStrsN (.inl (.of gl3)) ?_
        walk_at "rd"
        refine ite2 (fun q6 => ?_) (fun q6 => ?_)
        · walk_at "rd"
          exact ⟨ws, _, _, rfl, tp3, b2.trans b3, gl3, nd, by omega, hw, fun _ e => by rw [e] at q6; simp at q6⟩
        · walk_at "rd"
          refine Rd.tyL (.of gl3) ?_
          walk_at "rd"
          refine Rd.app gl3 (by rw [List.length_map, sizeLine_eq]; omega) fun G6 g6 off6 => ?_
          walk_at "rd"
          exact ⟨ws ++ [y], _, _, rfl, tp3.off lt lc off6, but_off (b2.trans b3) nl off6, by rw [List.map_append]; exact g6, snoc_nodup nd q6, by rw [List.length_append]; exact Nat.succ_le_succ wl2, snoc_all hw hy, fun _ e => by simp at e⟩
      · rintro _ H2 ⟨ws, o8, o9, rfl, tp2, b2, gl2, nd, wl2, hw, wn⟩
        walk_at "rd"
        exact k l ws H2 tp2 b2 nl gl2 nd (by omega) hw fun p => wn (by omega)
end
end W

namespace W
open PySem PySem.Spec PyProof.Rows L2
section
variable {P : Program} {w : World} {K : PySem.W.Frag} {mg : Str → Option Value} {base : Heap}
/-! ### spots beside a spot -/
theorem adj_near {ws : List Str} {z : Str} (hw : ∀ W ∈ ws, 1 ≤ W.length) {i j : Nat} (hi : i ≤ z.length) (hj : j ≤ z.length) : Mw.Adj ws z i j ↔ j ≠ i ∧ cutS z (some (min (i : Int) (j : Int))) (some (max (i : Int) (j : Int))) ∈ ws := by
  constructor
  · rintro ⟨W, m, ⟨⟨o1, o2⟩, e⟩ | ⟨⟨o1, o2⟩, e⟩⟩
    · have := hw W m
      refine ⟨by omega, ?_⟩
      rw [show min (i : Int) (j : Int) = i by omega, show max (i : Int) (j : Int) = (i : Int) + (W.length : Int) by omega, o2]
      exact m
    · have := hw W m
      refine ⟨by omega, ?_⟩
      rw [show min (i : Int) (j : Int) = j by omega, show max (i : Int) (j : Int) = (j : Int) + (W.length : Int) by omega, o2]
      exact m
  · rintro ⟨ne, m⟩
    have l := Lt.cut_lenI (z := z) (a := min (i : Int) (j : Int)) (b := max (i : Int) (j : Int)) (by omega) (by omega) (by omega)
    refine ⟨_, m, ?_⟩
    rcases Nat.lt_or_ge i j with c | c
    · refine .inl ⟨⟨by omega, ?_⟩, by omega⟩
      rw [l]
      rw [show min (i : Int) (j : Int) = i by omega, show max (i : Int) (j : Int) = j by omega, show (i : Int) + ((j : Int) - (i : Int)) = j by omega]
    · refine .inr ⟨⟨by omega, ?_⟩, by omega⟩
      rw [l]
      rw [show min (i : Int) (j : Int) = j by omega, show max (i : Int) (j : Int) = i by omega, show (j : Int) + ((i : Int) - (j : Int)) = i by omega]
def sp_l_near (K : PySem.W.Frag) : Sp := fun vs H Q _ => ∃ (a : Addr) (ws : List Str) (z : Str) (s : Nat), vs = [.ref a, .str z, .int (s : Nat)] ∧ SqL K H a (ws.map V.str) ∧ (∀ W ∈ ws, 1 ≤ W.length) ∧ z.length ≤ 1000 ∧ s ≤ z.length ∧
  ∀ (l : Addr) (xs : List Int) H', Same H H' → H l = none → H' l = some (.lst (xs.map V.int)) → (∀ x, x ∈ xs ↔ ∃ j : Nat, x = j ∧ Mw.Adj ws z s j) → xs.length ≤ z.length + 1 → xs.Pairwise (· < ·) → Q (.ref l) H'
theorem ok_l_near (T : Txt K mg) : FnOk P w K mg base CX0 1 T.f_l_near T.fd_l_near ["_law_watches_here", "_law_word_here", "_law_spot"] (sp_l_near K) := by
  refine T.F_l_near.ok sc_l_near (fun vs H Q E h => ?_) (fun cdv A outer s H vs Q E hr h => ?_)
  · obtain ⟨a, ws, z, s, rfl, _⟩ := h
    rfl
  · obtain ⟨a, ws, z, s, rfl, hS, hw, z1, sn, k⟩ := h
    refine ⟨_, (pss_cons (ps_set (i := 3) sc_l_near.nd rfl (.inl rfl) (pe_lst pa_nil))
  (pss_cons (ps_for PassesOwn.never rfl (pi_range1 rfl T.n_range (pa_cons (pe_op op_add (pe_callB (id := "len") (r := _) Rd.c_lenS (by rfl) T.n_len (by decide +kernel) (pa_cons (pv 1) pa_nil)) pe_int) pa_nil)) (pg_name (i := 4) sc_l_near.nd rfl (.inl rfl))
  (pss_one (ps_if (PW.pt (pw_and (pt_cmpR op_ne (pv 4) (pv 2) (nomark _)) (pw_and1 (pt_cmpR (r := rIn K false) op_in_seq (pe_slice sl_str (pv 1) (po_some (pe_callB (id := "min") (r := _) (Rd.c_min2 rfl) (by rfl) T.n_min (by decide +kernel) (pa_cons (pv 2) (pa_cons (pv 4) pa_nil)))) (po_some (pe_callB (id := "max") (r := _) (Rd.c_max2 rfl) (by rfl) T.n_max (by decide +kernel) (pa_cons (pv 2) (pa_cons (pv 4) pa_nil))))) (pv 0) (by rfl)))))
  (pss_one (ps_expr (pe_bm PySem.F.plainAttrs_list PySem.F.slot_list_append PySem.F.type_list_append mt_append (pv 3) (pa_cons (pv 4) pa_nil))))
  pss_nil)))
  (pss_one (ps_ret (pv 3))))), ?_⟩
    have zl : z.length ≤ sizeLine := by rw [sizeLine_eq]; omega
    walk_at "rd"
    refine ⟨Nat.zero_le _, Rd.new fun l G nl gl sG => ?_⟩
    walk_at "rd"
    refine Rd.forS ?_
    walk_at "rd"
    refine Rd.lenStr zl ?_
    walk_at "rd"
    refine ⟨by omega, by omega, ?_⟩
    refine for_range (lo := 0) (n := ((z.length : Int) + 1).toNat) (fun i σ H' => ∃ (xs : List Int) (o4 : Option V), σ = [some (.ref a), some (.str z), some (.int (s : Nat)), some (.ref l), o4] ∧ Same H H' ∧ H' l = some (.lst (xs.map V.int)) ∧ (∀ x, x ∈ xs ↔ ∃ j : Nat, x = j ∧ j < i ∧ Mw.Adj ws z s j) ∧ xs.length ≤ i ∧ xs.Pairwise (· < ·))
      ⟨[], none, rfl, sG, gl, fun x => ⟨fun h => by simp at h, fun ⟨j, _, h, _⟩ => by omega⟩, Nat.le_refl _, .nil⟩ ?_ ?_
    · rintro i _ H1 hi ⟨xs, o4, rfl, s1, gl1, hx, xl, xp⟩
      have ad := adj_near (z := z) hw sn (j := i) (by omega)
      have skip : ¬ Mw.Adj ws z s i → ∀ x, x ∈ xs ↔ ∃ j : Nat, x = j ∧ j < i + 1 ∧ Mw.Adj ws z s j := fun no x => (hx x).trans ⟨fun ⟨j, e, h, r⟩ => ⟨j, e, by omega, r⟩, fun ⟨j, e, h, r⟩ => ⟨j, e, by
        rcases Nat.lt_succ_iff_lt_or_eq.mp h with h | h
        · exact h
        · exact absurd (h ▸ r) no, r⟩⟩
      walk_at "rd"
      rw [Int.zero_add]
      refine ite2 (fun c => ?_) (fun c => ?_)
      · walk_at "rd"
        have ei : (i : Nat) = s := by omega
        exact ⟨xs, _, rfl, s1, gl1, skip fun r => (ad.mp r).1 ei, by omega, xp⟩
      · walk_at "rd"
        refine Rd.slS zl ?_
        walk_at "rd"
        refine Rd.inStrsY (.inl (s1.seq hS)) ?_
        walk_at "rd"
        refine ite2 (fun c2 => ?_) (fun c2 => ?_)
        · walk_at "rd"
          refine Rd.tyL (.of gl1) ?_
          walk_at "rd"
          refine Rd.app gl1 (by rw [List.length_map, sizeLine_eq]; omega) fun G2 g2 off2 => ?_
          walk_at "rd"
          have r : Mw.Adj ws z s i := ad.mpr ⟨by omega, c2⟩
          refine ⟨xs ++ [(i : Int)], _, rfl, fun b o e => ?_, by rw [List.map_append]; exact g2, fun x => ?_, by rw [List.length_append]; exact Nat.succ_le_succ xl, List.pairwise_append.mpr ⟨xp, List.pairwise_singleton _ _, fun x hx' y hy => by
            obtain ⟨j, e, h, _⟩ := (hx x).mp hx'
            rw [List.mem_singleton.mp hy]
            omega⟩⟩
          · rw [off2 b (ne_of_none e nl)]
            exact s1 b o e
          · rw [List.mem_append, hx, List.mem_singleton]
            constructor
            · rintro (⟨j, e, h, r⟩ | rfl)
              · exact ⟨j, e, by omega, r⟩
              · exact ⟨i, rfl, by omega, r⟩
            · rintro ⟨j, e, h, r⟩
              rcases Nat.lt_succ_iff_lt_or_eq.mp h with h | h
              · exact .inl ⟨j, e, h, r⟩
              · exact .inr (by rw [e, h])
        · walk_at "rd"
          exact ⟨xs, _, rfl, s1, gl1, skip fun r => c2 (ad.mp r).2, by omega, xp⟩
    · rintro _ H1 ⟨xs, o4, rfl, s1, gl1, hx, xl, xp⟩
      walk_at "rd"
      exact k l xs H1 s1 nl gl1 (fun x => (hx x).trans ⟨fun ⟨j, e, _, r⟩ => ⟨j, e, r⟩, fun ⟨j, e, r⟩ => ⟨j, e, by have := r.le.2; omega, r⟩⟩) (by omega) xp

end
end W

namespace W
open PySem PySem.Spec PyProof.Rows L2
section
variable {P : Program} {w : World} {K : PySem.W.Frag} {mg : Str → Option Value} {base : Heap}
/-! ### naturals as values -/
def natV (P : List Nat) : List V := (P.map fun i : Nat => (i : Int)).map V.int
theorem natV_len (P : List Nat) : (natV P).length = P.length := by
  unfold natV
  rw [List.length_map, List.length_map]
theorem natV_get {P : List Nat} {i : Nat} {x : V} (h : (natV P)[i]? = some x) : ∃ j, P[i]? = some j ∧ x = .int (j : Nat) := by
  unfold natV at h
  rw [List.map_map, List.getElem?_map] at h
  cases e : P[i]? with
  | none => rw [e] at h; cases h
  | some j => rw [e] at h; exact ⟨j, rfl, (Option.some.inj h).symm⟩
theorem mem_nat {P : List Nat} {i : Nat} : ((i : Int) ∈ P.map fun j : Nat => (j : Int)) ↔ i ∈ P := by
  rw [List.mem_map]
  constructor
  · rintro ⟨j, m, e⟩
    rw [show i = j by omega]
    exact m
  · exact fun m => ⟨i, m, rfl⟩
theorem paired_mono {α β : Type} {R S : α → β → Prop} {xs : List α} {ys : List β} (h : Paired R xs ys) (f : ∀ x y, R x y → S x y) : Paired S xs ys := by
  induction h with
  | nil => exact .nil
  | cons a _ ih => exact .cons (f _ _ a) ih
theorem paired_app {α β : Type} {R : α → β → Prop} {xs us : List α} {ys ws : List β} (h : Paired R xs ys) (k : Paired R us ws) : Paired R (xs ++ us) (ys ++ ws) := by
  induction h with
  | nil => exact k
  | cons a _ ih => exact .cons a ih
theorem paired_at {α β : Type} {R : α → β → Prop} {xs : List α} {ys : List β} (h : Paired R xs ys) : ∀ {i : Nat} {x : α}, xs[i]? = some x → ∃ y, ys[i]? = some y ∧ R x y := by
  induction h with
  | nil => intro i x e; simp at e
  | cons a _ ih =>
    intro i x e
    cases i with
    | zero => cases e; exact ⟨_, rfl, a⟩
    | succ i => exact ih e

end
end W

namespace W
open PySem PySem.Spec PyProof.Rows L2
section
variable {P : Program} {w : World} {K : PySem.W.Frag} {mg : Str → Option Value} {base : Heap}
/-! ### distances, the least of the shortest ways -/
def ov : Option Nat → V
  | none => .non
  | some d => .int (d : Nat)
def Fl (L : List V) (F : Nat → Option Nat) (n : Nat) : Prop := L.length = n + 1 ∧ ∀ i, i ≤ n → L[i]? = some (ov (F i))
theorem Fl.get {L : List V} {F : Nat → Option Nat} {n i : Nat} (h : Fl L F n) (hi : i ≤ n) : atI L (i : Int) = some (ov (F i)) := atI_nat (h.2 i hi)
theorem Fl.set {L : List V} {F : Nat → Option Nat} {n i d : Nat} (h : Fl L F n) (hi : i ≤ n) : Fl (L.set i (.int (d : Nat))) (fun j => if j = i then some d else F j) n := by
  refine ⟨by rw [List.length_set]; exact h.1, fun j hj => ?_⟩
  rw [List.getElem?_set]
  by_cases c : i = j
  · rw [if_pos c, if_pos (by have := h.1; omega)]
    show some (V.int (d : Nat)) = some (ov (if j = i then some d else F j))
    rw [if_pos c.symm]
    rfl
  · rw [if_neg c]
    show L[j]? = some (ov (if j = i then some d else F j))
    rw [if_neg (fun e : j = i => c e.symm)]
    exact h.2 j hj
theorem rep_non (k : Nat) : (List.replicate k [V.non]).flatten = List.replicate k V.non := by
  induction k with
  | zero => rfl
  | succ k ih => rw [List.replicate_succ, List.flatten_cons, ih, List.replicate_succ]; rfl
def sp_distances (K : PySem.W.Frag) : Sp := fun vs H Q _ => ∃ (p : Addr) (n : Nat) (A : Nat → Nat → Prop), vs = [.ref p] ∧ Links K H p n A ∧ n ≤ 1000 ∧ (∀ i j, A i j → j ≤ n) ∧
  ∀ (l : Addr) (L : List V) (F : Nat → Option Nat) H', H' l = some (.lst L) → Fl L F n → (∀ i, i ≤ n → ∀ d, F i = some d ↔ Mz.Dist A n i d) → Same H H' → H l = none → Q (.ref l) H'
theorem ok_distances (T : Txt K mg) : FnOk P w K mg base CX0 1 T.f_distances T.fd_distances ["links"] (sp_distances K) := by
  refine T.F_distances.ok sc_distances (fun vs H Q E h => ?_) (fun cdv A outer s H vs Q E hr h => ?_)
  · obtain ⟨p, n, A, rfl, _⟩ := h
    rfl
  · obtain ⟨p, n, A, rfl, hL, hn, hA, k⟩ := h
    refine ⟨_, (pss_cons (ps_set (i := 1) sc_distances.nd rfl (.inl rfl) (pe_op op_rep (pe_lst (pa_cons pe_non pa_nil)) (pe_callB (id := "len") (r := Rd.nLen K) Rd.c_len (by rfl) T.n_len (by decide +kernel) (pa_cons (pv 0) pa_nil))))
  (pss_cons (ps_asg pe_int (pg_sub (pv 1) (pe_un un_neg pe_int) set_list))
  (pss_cons (ps_set (i := 2) sc_distances.nd rfl (.inl rfl) (pe_lst (pa_cons (pe_op op_sub (pe_callB (id := "len") (r := Rd.nLen K) Rd.c_len (by rfl) T.n_len (by decide +kernel) (pa_cons (pv 0) pa_nil)) pe_int) pa_nil)))
  (pss_cons (ps_while PassesOwn.never (pt_cmpR op_gt (pe_callB (id := "len") (r := Rd.nLen K) Rd.c_len (by rfl) T.n_len (by decide +kernel) (pa_cons (pv 2) pa_nil)) pe_int (nomark _))
  (pss_cons (ps_set (i := 3) sc_distances.nd rfl (.inl rfl) (pe_lst pa_nil))
  (pss_cons (ps_for PassesOwn.never rfl (pi_list (pv 2)) (pg_name (i := 4) sc_distances.nd rfl (.inl rfl))
  (pss_one (ps_for PassesOwn.never rfl (pi_list (pe_ix (r := rIxL K) ix_list (pv 0) (pv 4) (fun _ _ => rfl))) (pg_name (i := 5) sc_distances.nd rfl (.inl rfl))
  (pss_one (ps_if (pt_cmpR op_isN (pe_ix (r := rIxL K) ix_list (pv 1) (pv 5) (fun _ _ => rfl)) pe_non (nomark _))
  (pss_cons (ps_asg (pe_op op_add (pe_ix (r := rIxL K) ix_list (pv 1) (pv 4) (fun _ _ => rfl)) pe_int) (pg_sub (pv 1) (pv 5) set_list))
  (pss_one (ps_expr (pe_bm PySem.F.plainAttrs_list PySem.F.slot_list_append PySem.F.type_list_append mt_append (pv 3) (pa_cons (pv 5) pa_nil)))))
  pss_nil)))))
  (pss_one (ps_set (i := 2) sc_distances.nd rfl (.inl rfl) (pv 3))))))
  (pss_one (ps_ret (pv 1))))))), ?_⟩
    obtain ⟨rs, hp, rl, hr⟩ := hL
    walk_at "rd"
    refine ⟨Nat.le_of_ble_eq_true rfl, Rd.new fun e0 G0 ne0 ge0 s0 => ?_⟩
    walk_at "rd"
    refine Rd.len (.inl (s0.seq hp)) ?_
    rw [List.length_map, rl]
    refine Rd.rep ge0 (by omega) (by omega) (by rw [sizeLine_eq]; show 1 * _ ≤ _; omega) (Rd.new fun f G1 nf gf s1 => ?_)
    rw [show ((n + 1 : Nat) : Int).toNat = n + 1 from rfl, rep_non] at gf
    walk_at "rd"
    refine Rd.setG gf (j := n) (by rw [List.length_replicate]; unfold ixN; rw [if_neg (by decide), if_pos (by omega)]; congr 1; omega) rfl fun G2 g2 off2 => ?_
    have s2 : Same H G2 := fun b o e => by
      rw [off2 b (ne_of_none (s0 _ _ e) nf)]
      exact s1 _ _ (s0 _ _ e)
    have nfH : H f = none := s0.free nf
    walk_at "rd"
    refine Rd.len (.inl (s2.seq hp)) ?_
    rw [List.length_map, rl]
    walk_at "rd"
    refine ⟨Nat.le_of_ble_eq_true rfl, Rd.new fun ra G3 nra gra s3 => ?_⟩
    have fl0 : Fl (List.replicate (n + 1) V.non |>.set n (.int ((0 : Nat) : Int))) (fun j => if j = n then some 0 else none) n := by
      refine Fl.set (F := fun _ => none) ⟨by rw [List.length_replicate], fun i hi => ?_⟩ (Nat.le_refl n)
      rw [List.getElem?_replicate, if_pos (by omega)]
      rfl
    walk_at "rd"
    refine Rd.whl (fun m σ H' => ∃ (k : Nat) (F : Nat → Option Nat) (L : List V) (ra : Addr) (xs : List Int) (o3 o4 o5 : Option V), σ = [some (.ref p), some (.ref f), some (.ref ra), o3, o4, o5] ∧ H' f = some (.lst L) ∧ Fl L F n ∧ H' ra = some (.lst (xs.map V.int)) ∧ Same H H' ∧ ra ≠ f ∧
        (∀ i, i ≤ n → ∀ d, F i = some d ↔ (Mz.Dist A n i d ∧ d ≤ k)) ∧ (∀ x, x ∈ xs ↔ ∃ i : Nat, x = i ∧ Mz.Dist A n i k) ∧ m = if xs = [] then 0 else n + 1 - k)
      ⟨_, 0, _, _, ra, [((n + 1 : Nat) : Int) - 1], none, none, none, rfl, s3 _ _ g2, fl0, gra, s2.trans s3, (ne_of_none g2 nra).symm, fun i hi d => ?_, fun x => ?_, rfl⟩ ?_
    · by_cases c : i = n
      · rw [if_pos c, c]
        constructor
        · intro h
          cases h
          exact ⟨Mz.Dist.zero, Nat.le_refl _⟩
        · rintro ⟨h, _⟩
          rw [h.inj Mz.Dist.zero]
      · rw [if_neg c]
        constructor
        · intro h
          cases h
        · rintro ⟨h, l⟩
          have : d = 0 := by omega
          subst this
          exact absurd (Mz.Dist.zero_iff.mp h) (fun e => c e.symm)
    · rw [List.mem_singleton]
      constructor
      · intro h
        exact ⟨n, by omega, Mz.Dist.zero⟩
      · rintro ⟨i, h, d⟩
        have := Mz.Dist.zero_iff.mp d
        omega
    rintro m _ H1 ⟨k0, F, L, ra, xs, o3, o4, o5, rfl, gf1, fl, gra1, s1', raf, hF, hxs, rfl⟩
    walk_at "rd"
    refine Rd.len (.inl (.of gra1)) ?_
    rw [List.length_map]
    walk_at "rd"
    refine ite2 (fun c => ?_) (fun c => ?_)
    · have xne : xs ≠ [] := fun e => by rw [e] at c; simp at c
      rw [if_neg xne]
      have kn : k0 ≤ n := by
        obtain ⟨x, hx⟩ := List.exists_mem_of_ne_nil _ xne
        obtain ⟨i, _, d⟩ := (hxs x).mp hx
        exact d.le hA (Nat.le_refl n)
      refine Rd.whN ?_
      walk_at "rd"
      refine ⟨Nat.zero_le _, Rd.new fun la G4 nla gla s4 => ?_⟩
      have nla1 : H la = none := s1'.free nla
      have laf : la ≠ f := (ne_of_none gf1 nla).symm
      have rala : ra ≠ la := ne_of_none gra1 nla
      have hpS : ∀ {H'}, Same H H' → SqL K H' p (rs.map V.ref) := fun s => s.seq hp
      walk_at "rd"
      refine Rd.forS ?_
      walk_at "rd"
      refine ⟨⟨_, .of (s4 _ _ gra1)⟩, for_list (K := K) (a := ra) (xs := xs.map V.int) (fun a σ H' => ∃ (F' : Nat → Option Nat) (L' : List V) (ys : List Int) (o4 o5 : Option V), σ = [some (.ref p), some (.ref f), some (.ref ra), some (.ref la), o4, o5] ∧ H' f = some (.lst L') ∧ Fl L' F' n ∧ H' la = some (.lst (ys.map V.int)) ∧ Same H H' ∧ H' ra = some (.lst (xs.map V.int)) ∧
          (∀ i d, i ≤ n → F i = some d → F' i = some d) ∧ (∀ i d, i ≤ n → F' i = some d → F i = some d ∨ (d = k0 + 1 ∧ (i : Int) ∈ ys)) ∧ ys.Nodup ∧ (∀ y ∈ ys, ∃ i : Nat, y = i ∧ i ≤ n ∧ F' i = some (k0 + 1) ∧ Mz.Dist A n i (k0 + 1)) ∧ ∀ s : Nat, (s : Int) ∈ xs.take a → ∀ i, A s i → F' i ≠ none)
        ⟨F, L, [], _, _, rfl, s4 _ _ gf1, fl, gla, s1'.trans s4, s4 _ _ gra1, fun i d _ h => h, fun i d _ h => .inl h, .nil, fun y h => by simp at h, fun s h => by simp at h⟩ (fun a σ H' _ ⟨_, _, _, _, _, _, _, _, _, _, g, _⟩ => .of g) ?_ ?_⟩
      · rintro a x0 _ H2 hx0 ⟨F1, L1, ys, o4, o5, rfl, gf2, fl1, gla2, sm2, gra2, hA1, hA2, nd, hys, cov⟩
        obtain ⟨x, hx, rfl⟩ := Rd.map_get hx0
        obtain ⟨s, rfl, ds⟩ := (hxs x).mp (List.mem_of_getElem? hx)
        have sn : s ≤ n := Mz.Steps.le hA (Nat.le_refl n) ds.1
        have hrow : s < rs.length := by omega
        obtain ⟨ms, m1, _, m2⟩ := hr s _ (List.getElem?_eq_getElem hrow)
        have Fs : F s = some k0 := (hF s sn k0).mpr ⟨ds, Nat.le_refl _⟩
        walk_at "rd"
        refine Rd.forS ?_
        walk_at "rd"
        refine Rd.ixL (hpS sm2) (atI_nat (Rd.map_ref hrow)) ?_
        walk_at "rd"
        refine ⟨⟨_, sm2.seq m1⟩, for_list (K := K) (a := rs[s]) (xs := ms.map V.int) (fun b σ H' => ∃ (F' : Nat → Option Nat) (L' : List V) (ys : List Int) (o5 : Option V), σ = [some (.ref p), some (.ref f), some (.ref ra), some (.ref la), some (.int (s : Int)), o5] ∧ H' f = some (.lst L') ∧ Fl L' F' n ∧ H' la = some (.lst (ys.map V.int)) ∧ Same H H' ∧ H' ra = some (.lst (xs.map V.int)) ∧
            (∀ i d, i ≤ n → F i = some d → F' i = some d) ∧ (∀ i d, i ≤ n → F' i = some d → F i = some d ∨ (d = k0 + 1 ∧ (i : Int) ∈ ys)) ∧ ys.Nodup ∧ (∀ y ∈ ys, ∃ i : Nat, y = i ∧ i ≤ n ∧ F' i = some (k0 + 1) ∧ Mz.Dist A n i (k0 + 1)) ∧ (∀ s : Nat, (s : Int) ∈ xs.take a → ∀ i, A s i → F' i ≠ none) ∧ ∀ i : Nat, (i : Int) ∈ ms.take b → F' i ≠ none)
          ⟨F1, L1, ys, _, rfl, gf2, fl1, gla2, sm2, gra2, hA1, hA2, nd, hys, cov, fun i h => by simp at h⟩ (fun b σ H' _ ⟨_, _, _, _, _, _, _, _, g, _⟩ => g.seq m1) ?_ ?_⟩
        · rintro b y0 _ H3 hy0 ⟨F2, L2, ys2, o5, rfl, gf3, fl2, gla3, sm3, gra3, hB1, hB2, nd2, hys2, cov2, cin⟩
          obtain ⟨y, hy, rfl⟩ := Rd.map_get hy0
          obtain ⟨i, rfl, ai⟩ := (m2 y).mp (List.mem_of_getElem? hy)
          have iN : i ≤ n := hA _ _ ai
          have ylen : ys2.length ≤ n + 1 := Mw.nodup_range nd2 fun v hv => by obtain ⟨j, e, l, _⟩ := hys2 v hv; omega
          walk_at "rd"
          refine Rd.ixL (.of gf3) (fl2.get iN) ?_
          walk_at "rd"
          refine ⟨rfl, ?_⟩
          walk_at "rd"
          refine ite2 (fun q => ?_) (fun q => ?_)
          · have Fi : F2 i = none := by
              cases e : F2 i with
              | none => rfl
              | some d => rw [e] at q; cases q
            have Fi0 : F i = none := by
              cases e : F i with
              | none => rfl
              | some d => have := hB1 i d iN e; rw [Fi] at this; cases this
            have di : Mz.Dist A n i (k0 + 1) := ds.next ai fun j hj d => by
              have := (hF i iN j).mpr ⟨d, hj⟩
              rw [Fi0] at this
              cases this
            walk_at "rd"
            refine Rd.ixL (v := .int ((k0 : Nat) : Int)) (.of gf3) (by rw [fl2.get sn, hB1 s k0 sn Fs]; rfl) ?_
            walk_at "rd"
            refine Rd.setG gf3 (j := i) (by rw [fl2.1]; exact Rd.ixN_of (i := (i : Int)) (by omega) (by omega)) rfl fun G5 g5 off5 => ?_
            have gla5 : G5 la = some (.lst (ys2.map V.int)) := by rw [off5 la laf]; exact gla3
            walk_at "rd"
            refine Rd.tyL (.of gla5) ?_
            walk_at "rd"
            refine Rd.app gla5 (by rw [List.length_map, sizeLine_eq]; omega) fun G6 g6 off6 => ?_
            walk_at "rd"
            have fl3 := fl2.set (d := k0 + 1) iN
            have iy : ¬ (i : Int) ∈ ys2 := fun h => by
              obtain ⟨j, e, _, h2, _⟩ := hys2 _ h
              have : i = j := by omega
              subst this
              rw [Fi] at h2
              cases h2
            refine ⟨_, _, ys2 ++ [(i : Int)], _, rfl, by rw [off6 f laf.symm]; exact g5, fl3, by rw [List.map_append]; exact g6, fun b o e => ?_, by rw [off6 ra rala, off5 ra raf]; exact gra3, fun j d jn h => ?_, fun j d jn h => ?_, ?_, fun v hv => ?_, fun s' hs j aj => ?_, fun j hj => ?_⟩
            · rw [off6 b (ne_of_none e nla1), off5 b (ne_of_none e nfH)]
              exact sm3 b o e
            · by_cases c : j = i
              · subst c
                rw [Fi0] at h
                cases h
              · rw [if_neg c]
                exact hB1 j d jn h
            · by_cases c : j = i
              · rw [if_pos c] at h
                cases h
                exact .inr ⟨rfl, List.mem_append.mpr (.inr (by rw [c]; simp))⟩
              · rw [if_neg c] at h
                exact (hB2 j d jn h).imp id fun ⟨h1, h2⟩ => ⟨h1, List.mem_append.mpr (.inl h2)⟩
            · exact snoc_nodup nd2 iy
            · rcases List.mem_append.mp hv with h | h
              · obtain ⟨j, e1, e2, e3, e4⟩ := hys2 v h
                refine ⟨j, e1, e2, ?_, e4⟩
                split
                · rfl
                · exact e3
              · simp at h
                exact ⟨i, h, iN, by rw [if_pos rfl], di⟩
            · split
              · exact fun h => nomatch h
              · exact cov2 s' hs j aj
            · split
              · exact fun h => nomatch h
              · rename_i c
                rw [Rd.take_snoc hy] at hj
                rcases List.mem_append.mp hj with h | h
                · exact cin j h
                · simp at h
                  exact absurd h (by omega)
          · walk_at "rd"
            refine ⟨F2, L2, ys2, _, rfl, gf3, fl2, gla3, sm3, gra3, hB1, hB2, nd2, hys2, cov2, fun j hj => ?_⟩
            rw [Rd.take_snoc hy] at hj
            rcases List.mem_append.mp hj with h | h
            · exact cin j h
            · simp at h
              have : j = i := by omega
              subst this
              intro e
              exact q (by rw [e]; rfl)
        · rintro _ H3 ⟨F2, L2, ys2, o5, rfl, gf3, fl2, gla3, sm3, gra3, hB1, hB2, nd2, hys2, cov2, cin⟩
          rw [List.length_map, List.take_length] at cin
          walk_at "rd"
          refine ⟨F2, L2, ys2, _, _, rfl, gf3, fl2, gla3, sm3, gra3, hB1, hB2, nd2, hys2, fun s' hs j aj => ?_⟩
          rw [Rd.take_snoc hx] at hs
          rcases List.mem_append.mp hs with h | h
          · exact cov2 s' h j aj
          · simp at h
            have : s' = s := by omega
            subst this
            exact cin j ((m2 _).mpr ⟨j, rfl, aj⟩)
      · rintro _ H2 ⟨F1, L1, ys, o4, o5, rfl, gf2, fl1, gla2, sm2, gra2, hA1, hA2, nd, hys, cov⟩
        rw [List.length_map, List.take_length] at cov
        walk_at "rd"
        have key : ∀ i, i ≤ n → ∀ d, F1 i = some d ↔ (Mz.Dist A n i d ∧ d ≤ k0 + 1) := fun i hi d => by
          constructor
          · intro h
            rcases hA2 i d hi h with h1 | ⟨rfl, h1⟩
            · have := (hF i hi d).mp h1
              exact ⟨this.1, by omega⟩
            · obtain ⟨j, e, _, _, dj⟩ := hys _ h1
              have : i = j := by omega
              subst this
              exact ⟨dj, Nat.le_refl _⟩
          · rintro ⟨h, l⟩
            by_cases c : d ≤ k0
            · exact hA1 i d hi ((hF i hi d).mpr ⟨h, c⟩)
            · have ed : d = k0 + 1 := by omega
              subst ed
              obtain ⟨s, hs, r⟩ := h.pred
              have := cov s ((hxs _).mpr ⟨s, rfl, hs⟩) i r
              cases e : F1 i with
              | none => exact absurd e this
              | some d' =>
                rcases hA2 i d' hi e with h1 | ⟨rfl, _⟩
                · have := ((hF i hi d').mp h1)
                  have e2 := this.1.inj h
                  omega
                · rfl
        have keyY : ∀ x, x ∈ ys ↔ ∃ i : Nat, x = i ∧ Mz.Dist A n i (k0 + 1) := fun x => by
          constructor
          · intro h
            obtain ⟨i, e, _, _, d⟩ := hys x h
            exact ⟨i, e, d⟩
          · rintro ⟨i, rfl, d⟩
            have hi : i ≤ n := Mz.Steps.le hA (Nat.le_refl n) d.1
            rcases hA2 i _ hi ((key i hi _).mpr ⟨d, Nat.le_refl _⟩) with h1 | ⟨_, h1⟩
            · have := ((hF i hi _).mp h1).2
              omega
            · exact h1
        refine ⟨if ys = [] then 0 else n + 1 - (k0 + 1), ?_, k0 + 1, F1, L1, la, ys, _, _, _, rfl, gf2, fl1, gla2, sm2, laf, key, keyY, rfl⟩
        split <;> omega
    · have xe : xs = [] := by
        cases xs with
        | nil => rfl
        | cons _ _ => exfalso; apply c; rw [List.length_cons]; omega
      subst xe
      walk_at "rd"
      refine k f L F H1 gf1 fl (fun i hi d => (hF i hi d).trans ⟨fun h => h.1, fun h => ⟨h, ?_⟩⟩) s1' nfH
      rcases Nat.lt_or_ge k0 d with l | l
      · obtain ⟨y, hy⟩ := h.all k0 (by omega)
        have := (hxs _).mpr ⟨y, rfl, hy⟩
        simp at this
      · exact l

end
end W

namespace W
open PySem PySem.Spec PyProof.Rows L2
section
variable {P : Program} {w : World} {K : PySem.W.Frag} {mg : Str → Option Value} {base : Heap}
/-! ### the least of the shortest zigzags -/
/-- what shortest answers -/
def Zig (H H' : Hp) (ws : List Str) (z : Str) (r : V) : Prop := (r = .non ∧ ¬ Mw.Told ws z) ∨ ∃ (q : Addr) (P : List Nat), r = .ref q ∧ H' q = some (.tup (natV P)) ∧ H q = none ∧ Mz.Gr (Mw.Adj ws z) z.length 0 P
theorem gr_told {A : Nat → Nat → Prop} {n x : Nat} {P : List Nat} (h : Mz.Gr A n x P) : Mw.Star A x n := by
  cases h with
  | stop => exact .refl
  | step hx _ _ _ _ => exact Mz.star_dist.mpr ⟨_, hx⟩
def sp_shortest (K : PySem.W.Frag) : Sp := fun vs H Q _ => ∃ (a : Addr) (ws : List Str) (z : Str), vs = [.ref a, .str z] ∧ Ru.SqR K H a (ws.map V.str) ∧ (∀ W ∈ ws, 1 ≤ W.length ∧ W.length ≤ 1000) ∧ ws.length ≤ 100 ∧ z.length ≤ 1000 ∧ ∀ (r : V) H', Same H H' → Zig H H' ws z r → Q r H'
def sp_zigzag (K : PySem.W.Frag) (C : Addr) : Sp := fun vs H Q _ => ∃ (a : Addr) (ws : List Str) (z : Str), vs = [.ref a, .str z] ∧ BookAt C H a ws ∧ Watches ws ∧ Lt.Wd 40 z ∧ ∀ (r : V) H', Same H H' → Zig H H' ws z r → Q r H'
theorem filt_step {α : Type} {l : List α} {i : Nat} {x : α} {f : α → Bool} (h : l[i]? = some x) : (l.take (i + 1)).filter f = (l.take i).filter f ++ if f x = true then [x] else [] := by
  rw [Rd.take_snoc h, List.filter_append]
  congr 1
  cases e : f x <;> simp [e]
theorem sorted_head {l : List Int} {f : Int → Bool} (hp : l.Pairwise (· ≤ ·)) {x : Int} (hx : x ∈ l) (fx : f x = true) : ∃ w r, l.filter f = w :: r ∧ ∀ v ∈ l, f v = true → w ≤ v := by
  have hm : x ∈ l.filter f := List.mem_filter.mpr ⟨hx, fx⟩
  have hs := hp.sublist (List.filter_sublist (l := l) (p := f))
  cases e : l.filter f with
  | nil => rw [e] at hm; simp at hm
  | cons w r =>
    rw [e] at hs
    refine ⟨w, r, rfl, fun v hv fv => ?_⟩
    have : v ∈ w :: r := by rw [← e]; exact List.mem_filter.mpr ⟨hv, fv⟩
    rcases List.mem_cons.mp this with rfl | h
    · exact Int.le_refl _
    · exact (List.pairwise_cons.mp hs).1 v h
theorem ok_shortest (T : Txt K mg) : FnOk P w K mg base CX0 2 T.f_shortest T.fd_shortest ["watches", "word"] (sp_shortest K) := by
  refine T.F_shortest.ok sc_shortest (fun vs H Q E h => ?_) (fun cdv A outer s H vs Q E hr h => ?_)
  · obtain ⟨a, ws, z, rfl, _⟩ := h
    rfl
  · obtain ⟨a, ws, z, rfl, hS, hw, l1, l2, k⟩ := h
    refine ⟨_, (pss_cons (ps_set (i := 2) sc_shortest.nd rfl (.inl rfl) (pe_call (ok_links_of T) (hr.mono (by decide)) rfl T.g_links_of T.F_links_of.kp T.b_links_of .nil pass0 (pa_cons (pv 0) (pa_cons (pv 1) pa_nil))))
  (pss_cons (ps_set (i := 3) sc_shortest.nd rfl (.inr rfl) (pe_call (ok_distances T) (hr.mono (by decide)) rfl T.g_distances T.F_distances.kp T.b_distances .nil pass0 (pa_cons (pv 2) pa_nil)))
  (pss_cons (ps_if (pt_cmpR op_isN (pe_ix (r := rIxL K) ix_list (pv 3) pe_int (fun _ _ => rfl)) pe_non (nomark _))
  (pss_one (ps_ret pe_non))
  pss_nil)
  (pss_cons (ps_set (i := 4) sc_shortest.nd rfl (.inl rfl) (pe_lst (pa_cons pe_int pa_nil)))
  (pss_cons (ps_while PassesOwn.never (pt_cmpR op_ne (pe_ix (r := rIxL K) ix_list (pv 4) (pe_un un_neg pe_int) (fun _ _ => rfl)) (pe_callB (id := "len") (r := _) Rd.c_lenS (by rfl) T.n_len (by decide +kernel) (pa_cons (pv 1) pa_nil)) (nomark _))
  (pss_cons (ps_set (i := 5) sc_shortest.nd rfl (.inr rfl) (pe_ix (r := rIxL K) ix_list (pv 4) (pe_un un_neg pe_int) (fun _ _ => rfl)))
  (pss_one (ps_expr (pe_bm PySem.F.plainAttrs_list PySem.F.slot_list_append PySem.F.type_list_append mt_append (pv 4) (pa_cons (pe_ix (r := rIxL K) ix_list (pe_lc (own := [("other", 6)]) (g := gName 6)  rfl sc_shortest.nd (pi_list (pe_ix (r := rIxL K) ix_list (pv 2) (pv 5) (fun _ _ => rfl))) (blkOk_by (own := [("other", 6)]) (N := ["watches", "word", "links", "far", "found", "spot", "other"]) (sc := defScope s_shortest) (by decide +kernel)) (fun _ _ _ _ _ => (pg_name (i := 6) sc_shortest.nd rfl (.inl rfl))) (fun _ _ _ _ _ => pts_one (pt_cmpR op_eq (pe_ix (r := rIxL K) ix_list (pv 3) (pv 6) (fun _ _ => rfl)) (pe_op op_sub (pe_ix (r := rIxL K) ix_list (pv 3) (pv 5) (fun _ _ => rfl)) pe_int) (nomark _))) (fun _ _ _ _ _ => (pv 6))) pe_int (fun _ _ => rfl)) pa_nil))))))
  (pss_one (ps_ret (pe_callTy (T := "tuple") (r := Rd.nTupOf K) Rd.c_tupOf (by rfl) T.n_tuple (by decide +kernel) (pa_cons (pv 4) pa_nil))))))))), ?_⟩
    walk_at "rd"
    refine ⟨a, ws, z, rfl, hS, hw, l1, l2, fun p H1 hL s1 _ _ => ?_⟩
    walk_at "rd"
    refine ⟨p, z.length, Mw.Adj ws z, rfl, hL, l2, fun i j h => h.le.2, fun l L F H2 gl fl hF s2 nl => ?_⟩
    have hsy : ∀ x y, Mw.Adj ws z x y → Mw.Adj ws z y x := fun x y h => Mw.Adj.symm x y h
    obtain ⟨rs, hp, rl, hr⟩ := hL.same s2
    have zl : z.length ≤ sizeLine := by rw [sizeLine_eq]; omega
    walk_at "rd"
    refine Rd.ixL (.of gl) (fl.get (i := 0) (Nat.zero_le _)) ?_
    walk_at "rd"
    refine ⟨rfl, ?_⟩
    walk_at "rd"
    refine ite2 (fun c => ?_) (fun c => ?_)
    · walk_at "rd"
      refine k _ _ (s1.trans s2) (.inl ⟨rfl, fun h => ?_⟩)
      obtain ⟨d, hd⟩ := Mz.star_dist.mp h
      have := (hF 0 (Nat.zero_le _) d).mpr (hd.symm hsy)
      rw [this] at c
      cases c
    · obtain ⟨d0, e0⟩ : ∃ d, F 0 = some d := by
        cases e : F 0 with
        | none => rw [e] at c; exact absurd rfl c
        | some d => exact ⟨d, rfl⟩
      have hd0 := (hF 0 (Nat.zero_le _) d0).mp e0
      walk_at "rd"
      refine ⟨Nat.le_of_ble_eq_true rfl, Rd.new fun g G ng gg sG => ?_⟩
      walk_at "rd"
      refine Rd.whl (fun m σ H' => ∃ (pre : List Nat) (cur : Nat) (o5 : Option V), σ = [some (.ref a), some (.str z), some (.ref p), some (.ref l), some (.ref g), o5, none] ∧ H' g = some (.lst (natV (pre ++ [cur]))) ∧ Same H2 H' ∧ cur ≤ z.length ∧ pre.length + m = d0 ∧ Mz.Dist (Mw.Adj ws z) z.length cur m ∧ ∀ P, Mz.Gr (Mw.Adj ws z) z.length cur P → Mz.Gr (Mw.Adj ws z) z.length 0 (pre ++ P))
        ⟨d0, [], 0, none, rfl, gg, sG, Nat.zero_le _, by simp, hd0, fun P h => h⟩ ?_
      rintro m _ H3 ⟨pre, cur, o5, rfl, gg3, s3, cn, pl, dc, gr⟩
      have last : atI (natV (pre ++ [cur])) (-1) = some (.int (cur : Int)) := by
        unfold natV
        rw [List.map_append, List.map_append]
        exact atI_last _ _
      walk_at "rd"
      refine Rd.ixL (.of gg3) last ?_
      walk_at "rd"
      refine Rd.lenStr zl ?_
      walk_at "rd"
      refine ite2 (fun c2 => ?_) (fun c2 => ?_)
      · have ec : cur = z.length := by omega
        subst ec
        walk_at "rd"
        refine Rd.tupOf (.of gg3) (Rd.new fun q G4 nq gq s4 => ?_)
        have s14 := ((s1.trans s2).trans s3).trans s4
        exact k _ _ s14 (.inr ⟨q, _, rfl, gq, ((s1.trans s2).trans s3).free nq, gr _ .stop⟩)
      · refine Rd.whN ?_
        have dn : Mz.Dist (Mw.Adj ws z) z.length z.length 0 := Mz.Dist.zero
        obtain ⟨m', rfl⟩ : ∃ m', m = m' + 1 := by
          cases m with
          | zero => exact absurd (Mz.Dist.zero_iff.mp dc) (fun e => c2 (by omega))
          | succ m' => exact ⟨m', rfl⟩
        have d0n : d0 ≤ z.length := hd0.le (fun i j h => h.le.2) (Nat.le_refl _)
        obtain ⟨y0, hy0, ry0⟩ := dc.pred
        have hrow : cur < rs.length := by omega
        obtain ⟨ms, m1, mp, m2⟩ := hr cur _ (List.getElem?_eq_getElem hrow)
        have Fc : F cur = some (m' + 1) := (hF cur cn _).mpr dc
        walk_at "rd"
        refine Rd.ixL (.of gg3) last ?_
        walk_at "rd"
        refine Rd.tyL (.of gg3) ?_
        walk_at "rd"
        refine Rd.ixL (s3.seq hp) (atI_nat (Rd.map_ref hrow)) ?_
        walk_at "rd"
        refine ⟨⟨_, s3.seq m1⟩, Rd.lcS walk_list (fun _ s => s.seq (s3.seq m1)) (fun D i acc Hc => acc = ((ms.take i).filter fun x => decide (F x.toNat = some m')).map V.int) (fun _ _ _ _ _ => rfl) ?_ ?_⟩
        · rintro D i x G1 _ acc nD hi hD sm rfl ⟨rfl, hx⟩
          obtain ⟨y, hy, rfl⟩ := Rd.map_get hx
          obtain ⟨j, rfl, aj⟩ := (m2 y).mp (List.mem_of_getElem? hy)
          have jn := aj.le.2
          have lim : ((((ms.take i).filter fun x => decide (F x.toNat = some m')).map V.int)).length < sizeLine := by
            rw [List.length_map, sizeLine_eq]
            have h1 := List.length_filter_le (fun x : Int => decide (F x.toNat = some m')) (ms.take i)
            rw [List.length_take] at h1
            have h2 := mp.2
            omega
          obtain ⟨e, hde⟩ : ∃ e, F j = some e := by
            obtain ⟨e, _, he⟩ := Mz.Steps.dist (A := Mw.Adj ws z) (x := z.length) (y := j) (k := m' + 1 + 1) ⟨cur, dc.1, aj⟩
            exact ⟨e, (hF j jn e).mpr he⟩
          have gl1 := sm _ _ (s3 _ _ gl)
          walk_at "rd"
          refine ⟨rfl, ?_⟩
          walk_at "rd"
          refine Rd.ixL (v := .int ((e : Nat) : Int)) (.of gl1) (by rw [fl.get jn, hde]; rfl) ?_
          walk_at "rd"
          refine Rd.ixL (v := .int ((m' + 1 : Nat) : Int)) (.of gl1) (by rw [fl.get cn, Fc]; rfl) ?_
          walk_at "rd"
          have st := filt_step (f := fun x : Int => decide (F x.toNat = some m')) hy
          rw [Int.toNat_natCast, hde] at st
          refine ite2 (fun q => ?_) (fun q => ?_)
          · have ee : e = m' := by omega
            subst ee
            rw [decide_eq_true rfl, if_pos rfl] at st
            walk_at "rd"
            refine Rd.lcPush hD nD sm lim fun G2 g2 off2 => ?_
            rw [st, List.map_append]
            rfl
          · have ee : ¬ some e = some m' := fun h => q (by cases h; omega)
            rw [decide_eq_false ee, if_neg Bool.false_ne_true, List.append_nil] at st
            walk_at "rd"
            refine ⟨_, hD, sm, ?_⟩
            dsimp only
            rw [st]
        · rintro D acc G1 nD hD sm rfl
          rw [List.length_map, List.take_length] at hD
          have yn : y0 ≤ z.length := Mz.Steps.le (fun i j h => h.le.2) (Nat.le_refl _) hy0.1
          obtain ⟨w, r, ef, hmin⟩ := sorted_head (f := fun x : Int => decide (F x.toNat = some m')) mp.1 ((m2 _).mpr ⟨y0, rfl, hsy _ _ ry0⟩) (by rw [Int.toNat_natCast]; exact decide_eq_true ((hF y0 yn _).mpr hy0))
          have wm : w ∈ ms.filter fun x : Int => decide (F x.toNat = some m') := by rw [ef]; exact List.mem_cons_self
          obtain ⟨wm1, wm2⟩ := List.mem_filter.mp wm
          obtain ⟨wi, rfl, aw⟩ := (m2 w).mp wm1
          rw [Int.toNat_natCast] at wm2
          have wn := aw.le.2
          have dw := (hF wi wn _).mp (of_decide_eq_true wm2)
          rw [ef] at hD
          walk_at "rd"
          refine Rd.ixL (.of hD) (atI_nat (j := 0) rfl) ?_
          walk_at "rd"
          refine Rd.app (sm _ _ gg3) (by unfold natV; rw [List.length_map, List.length_map, List.length_append, sizeLine_eq]; show _ + 1 < _; omega) fun G5 g5 off5 => ?_
          walk_at "rd"
          refine ⟨m', Nat.lt_succ_self _, pre ++ [cur], wi, _, rfl, ?_, fun b o e => ?_, wn, by rw [List.length_append]; show _ + 1 + _ = _; omega, dw, fun P h => ?_⟩
          · rw [g5]
            unfold natV
            simp
          · have bg : b ≠ g := ne_of_none e ng
            rw [off5 b bg]
            exact sm _ _ (s3 _ _ e)
          · rw [List.append_assoc]
            refine gr _ (.step (dc.symm hsy) aw (dw.symm hsy) (fun v av dv => ?_) h)
            have vn := av.le.2
            have := hmin (v : Int) ((m2 _).mpr ⟨v, rfl, av⟩) (by rw [Int.toNat_natCast]; exact decide_eq_true ((hF v vn _).mpr (dv.symm hsy)))
            omega
theorem ok_zigzag (T : Txt K mg) : FnOk P w K mg base CX0 5 T.f_zigzag T.fd_zigzag ["book", "word"] (sp_zigzag K T.C_Book) := by
  refine T.F_zigzag.ok sc_zigzag (fun vs H Q E h => ?_) (fun cdv A outer s H vs Q E hr h => ?_)
  · obtain ⟨a, ws, z, rfl, _⟩ := h
    rfl
  · obtain ⟨a, ws, z, rfl, hB, L, hz, k⟩ := h
    refine ⟨_, (pss_cons (ps_expr (pe_call (ok_check_book T) (hr.mono (by decide)) rfl T.g_check_book T.F_check_book.kp T.b_check_book .nil pass0 (pa_cons (pv 0) pa_nil)))
  (pss_cons (ps_expr (pe_call (ok_check_word T) (hr.mono (by decide)) rfl T.g_check_word T.F_check_word.kp T.b_check_word .nil pass0 (pa_cons (pv 1) pa_nil)))
  (pss_one (ps_ret (pe_call (ok_shortest T) (hr.mono (by decide)) rfl T.g_shortest T.F_shortest.kp T.b_shortest .nil pass0 (pa_cons (pe_fld (pv 0) rfl) (pa_cons (pv 1) pa_nil))))))), ?_⟩
    walk_at "rd"
    refine ⟨a, ws, rfl, hB, ?_⟩
    walk_at "rd"
    refine ⟨z, rfl, hz, fun H1 s1 => ?_⟩
    walk_at "rd"
    obtain ⟨dx, t, hb1, ht1⟩ := hB.same s1
    refine Rd.fld hb1 T.cl_Book T.na_Book_watches rfl ?_
    walk_at "rd"
    have l1 := L.l1
    have z1 := hz.l1
    refine ⟨t, ws, z, rfl, .inr (.of ht1), fun W m => ⟨(L.ok W m).l0, by have := (L.ok W m).l1; omega⟩, by omega, by omega, fun r H2 s2 hz => k r H2 (s1.trans s2) ?_⟩
    exact hz.imp id fun ⟨q, P, h1, h2, h3, h4⟩ => ⟨q, P, h1, h2, s1.free h3, h4⟩

end
end W

namespace W
open PySem PySem.Spec PyProof.Rows L2
section
variable {P : Program} {w : World} {K : PySem.W.Frag} {mg : Str → Option Value} {base : Heap}
/-! ### cuts: anything judged -/
theorem nat_at {P : List Nat} {i a : Nat} (h : P[i]? = some a) : (natV P)[i]? = some (.int (a : Nat)) := by
  unfold natV
  rw [List.getElem?_map, List.getElem?_map, h]
  rfl
theorem nat_mem {P : List Nat} {x : Nat} : ((x : Nat) : Int) ∈ (P.map fun i : Nat => (i : Int)) ↔ x ∈ P := by
  rw [List.mem_map]
  exact ⟨fun ⟨y, m, e⟩ => by have : y = x := by omega
                             subst this; exact m, fun m => ⟨x, m, rfl⟩⟩
/-- a cut: ascending, from 0 on, below n, left by no watch -/
structure CutX (A : Nat → Nat → Prop) (n : Nat) (P : List Nat) : Prop where
  asc : P.Pairwise (· < ·)
  zero : P[0]? = some 0
  top : ∀ x ∈ P, x < n
  shut : ∀ x ∈ P, ∀ y, A x y → y ∈ P
theorem head_zero {P : List Nat} (asc : P.Pairwise (· < ·)) (m : 0 ∈ P) : P[0]? = some 0 := by
  cases P with
  | nil => cases m
  | cons a r =>
    rcases List.mem_cons.mp m with e | m
    · subst e; rfl
    · have := (List.pairwise_cons.mp asc).1 _ m
      omega
theorem cut_least {A : Nat → Nat → Prop} {n : Nat} (hA : ∀ i j, A i j → j ≤ n) (no : ¬ Mw.Star A 0 n) : CutX A n (Mc.cls A n 0) where
  asc := Mt.cls_asc n 0
  zero := head_zero (Mt.cls_asc n 0) (Mc.mem_cls.mpr ⟨Nat.zero_le _, .refl⟩)
  top x m := by
    obtain ⟨h1, h2⟩ := Mc.mem_cls.mp m
    rcases Nat.lt_or_eq_of_le h1 with c | c
    · exact c
    · subst c; exact absurd h2 no
  shut x m y a := by
    obtain ⟨h1, h2⟩ := Mc.mem_cls.mp m
    exact Mc.mem_cls.mpr ⟨hA _ _ a, .step h2 a⟩
open Classical in
noncomputable def offB (A : Nat → Nat → Prop) (n i : Nat) : Bool := decide (¬ Mw.Star A n i)
open Classical in
theorem offB_iff {A : Nat → Nat → Prop} {n i : Nat} : offB A n i = true ↔ ¬ Mw.Star A n i := ⟨fun h => of_decide_eq_true h, fun h => decide_eq_true h⟩
noncomputable def cutG (A : Nat → Nat → Prop) (n : Nat) : List Nat := (List.range n).filter (offB A n)
theorem mem_cutG {A : Nat → Nat → Prop} {n i : Nat} : i ∈ cutG A n ↔ i < n ∧ ¬ Mw.Star A n i := by
  unfold cutG
  rw [List.mem_filter, List.mem_range, offB_iff]
theorem cut_great {A : Nat → Nat → Prop} {n : Nat} (hA : ∀ i j, A i j → j ≤ n) (sy : ∀ i j, A i j → A j i) (n0 : n ≠ 0) (no : ¬ Mw.Star A 0 n) : CutX A n (cutG A n) where
  asc := (Mc.range_lt n).sublist List.filter_sublist
  zero := head_zero ((Mc.range_lt n).sublist List.filter_sublist) (mem_cutG.mpr ⟨by omega, fun h => no (h.symm sy)⟩)
  top x m := (mem_cutG.mp m).1
  shut x m y a := by
    obtain ⟨h1, h2⟩ := mem_cutG.mp m
    refine mem_cutG.mpr ⟨?_, fun h => h2 (.step h (sy _ _ a))⟩
    rcases Nat.lt_or_eq_of_le (hA _ _ a) with c | c
    · exact c
    · subst c; exact absurd (Mw.Star.one (sy _ _ a)) h2
theorem CutX.len {A : Nat → Nat → Prop} {n : Nat} {P : List Nat} (h : CutX A n P) : 1 ≤ P.length ∧ P.length ≤ n := by
  constructor
  · have := (List.getElem?_eq_some_iff.mp h.zero).1
    omega
  · have := Mw.nodup_le P (List.range n) (h.asc.imp fun h => by omega) fun x m => List.mem_range.mpr (h.top x m)
    rwa [List.length_range] at this
/-- a cut told by integers -/
def CutI (A : Nat → Nat → Prop) (n : Nat) (P : List Int) : Prop := ∃ N : List Nat, P = N.map (fun i : Nat => (i : Int)) ∧ CutX A n N
noncomputable def cutB (ws : List Str) (z : Str) (o : Option (List Int)) : Bool := @decide (∃ P, o = some P ∧ CutI (Mw.Adj ws z) z.length P) (Classical.propDecidable _)
theorem cutB_iff {ws : List Str} {z : Str} {o : Option (List Int)} : cutB ws z o = true ↔ ∃ P, o = some P ∧ CutI (Mw.Adj ws z) z.length P := by
  unfold cutB
  exact @decide_eq_true_iff _ (Classical.propDecidable _)
theorem cutB_none {ws : List Str} {z : Str} : cutB ws z none = false := Bool.eq_false_iff.mpr fun h => let ⟨_, e, _⟩ := cutB_iff.mp h; nomatch e
theorem cutB_no {ws : List Str} {z : Str} {P : List Int} (h : ¬ CutI (Mw.Adj ws z) z.length P) : cutB ws z (some P) = false := Bool.eq_false_iff.mpr fun q => let ⟨_, e, c⟩ := cutB_iff.mp q; h (by cases e; exact c)
theorem cutB_yes {ws : List Str} {z : Str} {P : List Int} (h : CutI (Mw.Adj ws z) z.length P) : cutB ws z (some P) = true := cutB_iff.mpr ⟨P, rfl, h⟩
theorem ask_own {H : Hp} {a C dx : Addr} {fs : List (Str × V)} {Q : VK} (g : H a = some (.ins C dx fs)) (c : Cls K C) (o : OwnTy K C) (m : PySem.W.mroIn K C (.type "tuple") = some false) (q : Q (.bl false) H) : rIsi K [.ref a, .ty "tuple"] H Q := by
  refine ⟨_, _, _, _, false, rfl, .ty "tuple", .base (.ins g c o.ha o.hn o.htk o.hm), ?_, q⟩
  show (if (Value.ref C == Value.type "tuple") = true then some true else if PySem.W.kitMeta "tuple" = true then PySem.W.subIn K (.ref C) (.type "tuple") else none) = some false
  rw [if_neg (by simp), if_pos (by decide +kernel)]
  exact m
/-- a thing, and the integers of it if it is a tuple of integers -/
inductive CutOf (K : PySem.W.Frag) (H : Hp) : V → Option (List Int) → Prop
  | odd {x : V} {k : Rx.Kd} (h : Rx.Is H x k) (s : k.isTup = false) : CutOf K H x none
  | own {a C dx : Addr} {fs : List (Str × V)} (g : H a = some (.ins C dx fs)) (c : Cls K C) (o : OwnTy K C) (m : PySem.W.mroIn K C (.type "tuple") = some false) : CutOf K H (.ref a) none
  | mix {q : Addr} {xs : List V} {j : Nat} {y : V} {k : Rx.Kd} (g : H q = some (.tup xs)) (l : xs.length ≤ 1000) (ks : ∀ y ∈ xs, ∃ k, Rx.Is H y k) (hy : xs[j]? = some y) (hk : Rx.Is H y k) (n : k.isNum = false) : CutOf K H (.ref q) none
  | nums {q : Addr} {P : List Int} (g : H q = some (.tup (P.map V.int))) (l : P.length ≤ 1000) : CutOf K H (.ref q) (some P)
theorem CutOf.same {H H' : Hp} {x : V} {o : Option (List Int)} (s : Same H H') (h : CutOf K H x o) : CutOf K H' x o := by
  cases h with
  | odd h k => exact .odd (h.same s) k
  | own g c o m => exact .own (s _ _ g) c o m
  | mix g l ks hy hk n => exact .mix (s _ _ g) l (fun y m => let ⟨k, h⟩ := ks y m; ⟨k, h.same s⟩) hy (hk.same s) n
  | nums g l => exact .nums (s _ _ g) l
theorem CutOf.nat {H : Hp} {q : Addr} {N : List Nat} (g : H q = some (.tup (natV N))) (l : N.length ≤ 1000) : CutOf K H (.ref q) (some (N.map fun i : Nat => (i : Int))) := .nums g (by rw [List.length_map]; exact l)
theorem cutI_zero {A : Nat → Nat → Prop} {n : Nat} {P : List Int} (h : CutI A n P) : P[0]? = some 0 := by
  obtain ⟨N, rfl, c⟩ := h
  rw [List.getElem?_map, c.zero]
  rfl
theorem cutI_top {A : Nat → Nat → Prop} {n : Nat} {P : List Int} (h : CutI A n P) : ∀ x ∈ P, 0 ≤ x ∧ x < n := by
  obtain ⟨N, rfl, c⟩ := h
  intro x m
  obtain ⟨y, my, rfl⟩ := List.mem_map.mp m
  have := c.top y my
  omega
theorem cutI_asc {A : Nat → Nat → Prop} {n : Nat} {P : List Int} (h : CutI A n P) : P.Pairwise (· < ·) := by
  obtain ⟨N, rfl, c⟩ := h
  exact List.pairwise_map.mpr (c.asc.imp fun h => by omega)
theorem asc_of_steps : ∀ {P : List Int}, (∀ i a b, P[i]? = some a → P[i + 1]? = some b → a < b) → P.Pairwise (· < ·)
  | [], _ => .nil
  | [a], _ => List.pairwise_singleton _ _
  | a :: b :: r, h => by
    have ih := asc_of_steps (P := b :: r) fun i x y e1 e2 => h (i + 1) x y e1 e2
    refine List.pairwise_cons.mpr ⟨fun y m => ?_, ih⟩
    have ab := h 0 a b rfl rfl
    rcases List.mem_cons.mp m with e | m
    · rw [e]; exact ab
    · exact Int.lt_trans ab ((List.pairwise_cons.mp ih).1 y m)
theorem steps_of_asc {P : List Int} (h : P.Pairwise (· < ·)) {i : Nat} {a b : Int} (ha : P[i]? = some a) (hb : P[i + 1]? = some b) : a < b := by
  obtain ⟨l1, e1⟩ := List.getElem?_eq_some_iff.mp ha
  obtain ⟨l2, e2⟩ := List.getElem?_eq_some_iff.mp hb
  have := (List.pairwise_iff_getElem.mp h) i (i + 1) l1 l2 (by omega)
  rwa [e1, e2] at this
/-- ascending, from 0, the last one below n: the cut of some naturals -/
theorem nats_of {P : List Int} {n : Nat} (asc : P.Pairwise (· < ·)) (z : P[0]? = some 0) {m : Int} (hm : P.getLast? = some m) (mt : m < n) : ∃ N : List Nat, P = N.map (fun i : Nat => (i : Int)) ∧ N.Pairwise (· < ·) ∧ N[0]? = some 0 ∧ ∀ x ∈ N, x < n := by
  have p0 : ∀ x ∈ P, 0 ≤ x := fun x mx => by
    cases P with
    | nil => cases mx
    | cons a r =>
      have : a = 0 := Option.some.inj z
      subst this
      rcases List.mem_cons.mp mx with e | mx
      · omega
      · have := (List.pairwise_cons.mp asc).1 x mx
        omega
  have pt : ∀ x ∈ P, x ≤ m := fun x mx => by
    obtain ⟨r, rfl⟩ : ∃ r, P = r ++ [m] := List.getLast?_eq_some_iff.mp hm
    rcases List.mem_append.mp mx with q | q
    · have := (List.pairwise_append.mp asc).2.2 x q m (List.mem_singleton_self m)
      omega
    · rw [List.mem_singleton.mp q]
      omega
  have e : P = (P.map Int.toNat).map (fun i : Nat => (i : Int)) := by
    rw [List.map_map]
    conv => lhs; rw [← List.map_id P]
    refine List.map_congr_left fun x mx => ?_
    have := p0 x mx
    show x = ((x.toNat : Nat) : Int)
    omega
  refine ⟨P.map Int.toNat, e, ?_, ?_, ?_⟩
  · refine List.pairwise_map.mpr ?_
    refine asc.imp_of_mem fun {a b} ma mb h => ?_
    have := p0 a ma
    have := p0 b mb
    omega
  · rw [List.getElem?_map, z]
    rfl
  · intro x mx
    obtain ⟨y, my, rfl⟩ := List.mem_map.mp mx
    have := p0 y my
    have := pt y my
    omega
theorem zip_int {P : List Int} {i : Nat} {x y : V} (hx : (P.map V.int)[i]? = some x) (hy : (P.tail.map V.int)[i]? = some y) : ∃ a b : Int, P[i]? = some a ∧ P[i + 1]? = some b ∧ x = .int a ∧ y = .int b := by
  obtain ⟨a, ha, rfl⟩ := Rd.map_get hx
  obtain ⟨b, hb, rfl⟩ := Rd.map_get hy
  rw [List.getElem?_tail] at hb
  exact ⟨a, b, ha, hb, rfl, rfl⟩
theorem last_int {P : List Int} {m : Int} (h : P.getLast? = some m) : atI (P.map V.int) (-1) = some (.int m) := by
  obtain ⟨r, rfl⟩ : ∃ r, P = r ++ [m] := List.getLast?_eq_some_iff.mp h
  rw [List.map_append]
  exact atI_last _ _
def sp_fits_cut (K : PySem.W.Frag) : Sp := fun vs H Q _ => ∃ (a : Addr) (x : V) (ws : List Str) (z : Str) (o : Option (List Int)), vs = [.ref a, .str z, x] ∧ Ru.SqR K H a (ws.map V.str) ∧ (∀ W ∈ ws, 1 ≤ W.length ∧ W.length ≤ 1000) ∧ ws.length ≤ 100 ∧ z.length ≤ 1000 ∧ CutOf K H x o ∧ ∀ H', Same H H' → Q (.bl (cutB ws z o)) H'
theorem ok_fits_cut (T : Txt K mg) : FnOk P w K mg base CX0 2 T.f_fits_cut T.fd_fits_cut ["watches", "word", "thing"] (sp_fits_cut K) := by
  refine T.F_fits_cut.ok sc_fits_cut (fun vs H Q E h => ?_) (fun cdv A outer s H vs Q E hr h => ?_)
  · obtain ⟨a, x, ws, z, o, rfl, _⟩ := h
    rfl
  · obtain ⟨a, x, ws, z, o, rfl, hS, hw, w100, zl0, hx, k⟩ := h
    refine ⟨_, (pss_cons (ps_if (PW.pt (pw_or (pt_not (pt_val (pe_callB (id := "isinstance") (r := rIsi K) call_isi (by rfl) T.n_isinstance (by decide +kernel) (pa_cons (pv 2) (pa_cons (pe_bltn (v := .ty "tuple") (u := .type "tuple") (by rfl) T.n_tuple (by decide +kernel) rfl) pa_nil))))) (pw_or1 (pt_not (pt_val (pe_callB (id := "all") (r := rAll K) (cr_all rfl) (by rfl) T.n_all (by decide +kernel) (pa_cons (pe_lc (own := [("spot", 3)]) (g := gName 3) (tt := tYes) rfl sc_fits_cut.nd (pi_tup (pv 2)) (blkOk_by (own := [("spot", 3)]) (N := ["watches", "word", "thing", "spot", "links", "one", "other"]) (sc := defScope s_fits_cut) (by decide +kernel)) (fun _ _ _ _ _ => (pg_name (i := 3) sc_fits_cut.nd rfl (.inl rfl))) (fun _ _ _ _ _ => pts_nil) (fun _ _ _ _ _ => (pe_call (ok_is_integer T) (hr.mono (by decide)) rfl T.g_is_integer T.F_is_integer.kp T.b_is_integer .nil pass0 (pa_cons (pv 3) pa_nil)))) pa_nil)))))))
  (pss_one (ps_ret pe_bl))
  pss_nil)
  (pss_cons (ps_if (PW.pt (pw_or (pt_cmpR op_eq (pe_callB (id := "len") (r := Rd.nLen K) Rd.c_len (by rfl) T.n_len (by decide +kernel) (pa_cons (pv 2) pa_nil)) pe_int (nomark _)) (pw_or (pt_cmpR op_ne (pe_ix (r := rIxT K) ix_tup (pv 2) pe_int (fun _ _ => rfl)) pe_int (nomark _)) (pw_or1 (pt_cmpR op_ge (pe_ix (r := rIxT K) ix_tup (pv 2) (pe_un un_neg pe_int) (fun _ _ => rfl)) (pe_callB (id := "len") (r := _) Rd.c_lenS (by rfl) T.n_len (by decide +kernel) (pa_cons (pv 1) pa_nil)) (nomark _))))))
  (pss_one (ps_ret pe_bl))
  pss_nil)
  (pss_cons (ps_if (pt_not (pt_val (pe_callB (id := "all") (r := rAll K) (cr_all rfl) (by rfl) T.n_all (by decide +kernel) (pa_cons (pe_lc (own := [("one", 5), ("other", 6)]) (g := gTup K 2 (gCons (gName 5) (gCons (gName 6) gNil))) (tt := tYes) rfl sc_fits_cut.nd (RZ.pi_zipA (by rfl) T.n_zip (pa_cons (pv 2) (pa_cons (pe_slice (r := rSlT K) sl_tup (pv 2) (po_some pe_int) po_none) pa_nil))) (blkOk_by (own := [("one", 5), ("other", 6)]) (N := ["watches", "word", "thing", "spot", "links", "one", "other"]) (sc := defScope s_fits_cut) (by decide +kernel)) (fun _ _ _ _ _ => (pg_tup rfl (pgs_cons (pg_name (i := 5) sc_fits_cut.nd rfl (.inl rfl)) (pgs_cons (pg_name (i := 6) sc_fits_cut.nd rfl (.inl rfl)) pgs_nil)))) (fun _ _ _ _ _ => pts_nil) (fun _ _ _ _ _ => (pe_cmpR op_lt (pv 5) (pv 6) (nomark _)))) pa_nil))))
  (pss_one (ps_ret pe_bl))
  pss_nil)
  (pss_cons (ps_set (i := 4) sc_fits_cut.nd rfl (.inl rfl) (pe_call (ok_links_of T) (hr.mono (by decide)) rfl T.g_links_of T.F_links_of.kp T.b_links_of .nil pass0 (pa_cons (pv 0) (pa_cons (pv 1) pa_nil))))
  (pss_cons (ps_for PassesOwn.never rfl (pi_tup (pv 2)) (pg_name (i := 3) sc_fits_cut.nd rfl (.inl rfl))
  (pss_one (ps_if (pt_not (pt_val (pe_callB (id := "all") (r := rAll K) (cr_all rfl) (by rfl) T.n_all (by decide +kernel) (pa_cons (pe_lc (own := [("other", 6)]) (g := gName 6) (tt := tYes) rfl sc_fits_cut.nd (pi_list (pe_ix (r := rIxL K) ix_list (pv 4) (pv 3) (fun _ _ => rfl))) (blkOk_by (own := [("other", 6)]) (N := ["watches", "word", "thing", "spot", "links", "one", "other"]) (sc := defScope s_fits_cut) (by decide +kernel)) (fun _ _ _ _ _ => (pg_name (i := 6) sc_fits_cut.nd rfl (.inl rfl))) (fun _ _ _ _ _ => pts_nil) (fun _ _ _ _ _ => (pe_cmpR (r := rIn K false) op_in_seq (pv 6) (pv 2) (by rfl)))) pa_nil))))
  (pss_one (ps_ret pe_bl))
  pss_nil)))
  (pss_one (ps_ret pe_bl))))))), ?_⟩
    have zl : z.length ≤ sizeLine := by rw [sizeLine_eq]; omega
    cases hx with
    | odd h s =>
      rw [cutB_none] at k
      walk_at "rd"
      refine Rx.askTup h ?_
      rw [s]
      walk_at "rd"
      exact k _ (Same.refl _)
    | own g c o m =>
      rw [cutB_none] at k
      walk_at "rd"
      refine ask_own g c o m ?_
      walk_at "rd"
      exact k _ (Same.refl _)
    | @mix q xs j y kd g l ks hy hk n =>
      rw [cutB_none] at k
      have jl := (List.getElem?_eq_some_iff.mp hy).1
      walk_at "rd"
      refine Rd.isi (Ru.ty_T (.of g)) (by decide +kernel : kitB "tuple" "tuple" = some true) ?_
      walk_at "rd"
      refine ⟨⟨_, .of g⟩, Rd.lcS walk_tup (fun _ s => .of (s _ _ g)) (fun D i acc _ => ∃ bs : List Bool, acc = bs.map V.bl ∧ bs.length = i ∧ (j < i → bs.all id = false)) (fun _ _ _ _ _ => ⟨[], rfl, rfl, fun h => absurd h (Nat.not_lt_zero _)⟩) ?_ ?_⟩
      · rintro D i x G _ acc nD hi hD sm ⟨bs, rfl, bl, ba⟩ ⟨rfl, hx⟩
        obtain ⟨kx, hkx⟩ := ks x (List.mem_of_getElem? hx)
        walk_at "rd"
        refine ⟨rfl, ?_⟩
        walk_at "rd"
        refine ⟨x, kx, rfl, hkx.same sm, ?_⟩
        refine Rd.lcPush hD nD sm (by rw [List.length_map, sizeLine_eq]; omega) fun G _ _ => ?_
        refine ⟨bs ++ [kx.isNum], by rw [List.map_append]; rfl, by rw [List.length_append, bl]; rfl, fun h => ?_⟩
        rw [List.all_append]
        by_cases c : j < i
        · rw [ba c]
          rfl
        · have : j = i := by omega
          subst this
          rw [hx] at hy
          cases hy
          have : kx = kd := hkx.inj hk
          rw [this, n]
          exact Bool.and_false _
      · rintro D acc G1 nD hD s1 ⟨bs, rfl, bl, ba⟩
        walk_at "rd"
        refine Rd.all (.of hD) ?_
        rw [ba jl]
        walk_at "rd"
        exact k _ s1
    | @nums q P hq p1000 =>
      have le : ∀ i j, Mw.Adj ws z i j → j ≤ z.length := fun i j h => h.le.2
      walk_at "rd"
      refine Rd.isi (Ru.ty_T (.of hq)) (by decide +kernel : kitB "tuple" "tuple" = some true) ?_
      walk_at "rd"
      refine ⟨⟨_, .of hq⟩, Rd.lcS walk_tup (fun _ s => .of (s _ _ hq)) (fun D i acc _ => acc = (List.replicate i true).map V.bl) (fun _ _ _ _ _ => rfl) ?_ ?_⟩
      · rintro D i x G _ acc nD hi hD sm rfl ⟨rfl, hx⟩
        obtain ⟨v, ev, rfl⟩ := Rd.map_get hx
        rw [List.length_map] at hi
        walk_at "rd"
        refine ⟨rfl, ?_⟩
        walk_at "rd"
        refine ⟨_, _, rfl, .int v, ?_⟩
        refine Rd.lcPush hD nD sm (by rw [List.length_map, List.length_replicate, sizeLine_eq]; omega) fun G _ _ => ?_
        rw [List.replicate_succ', List.map_append]
        rfl
      · rintro D acc G1 nD hD s1 rfl
        walk_at "rd"
        refine Rd.all (.of hD) ?_
        rw [show (List.replicate (P.map V.int).length true).all id = true by simp]
        have hq1 := s1 _ _ hq
        clear hD nD
        walk_at "rd"
        refine Rd.len (.inr (.of hq1)) ?_
        rw [List.length_map]
        walk_at "rd"
        by_cases p0 : P.length = 0
        · refine Rd.yes (by omega) ?_
          walk_at "rd"
          rw [cutB_no fun c => by have := (List.getElem?_eq_some_iff.mp (cutI_zero c)).1; omega] at k
          exact k _ s1
        · refine Rd.no (by omega) ?_
          walk_at "rd"
          obtain ⟨f0, hf0⟩ : ∃ f, P[0]? = some f := ⟨_, List.getElem?_eq_getElem (by omega)⟩
          obtain ⟨m, em⟩ : ∃ m, P.getLast? = some m := by
            cases e : P.getLast? with
            | none => rw [List.getLast?_eq_none_iff] at e; rw [e] at p0; exact absurd rfl p0
            | some m => exact ⟨m, rfl⟩
          refine Rd.ixT (.of hq1) (atI_nat (j := 0) (by rw [List.getElem?_map, hf0]; rfl)) ?_
          walk_at "rd"
          by_cases z0 : f0 = 0
          rotate_left
          · refine Rd.no z0 ?_
            walk_at "rd"
            rw [cutB_no fun c => by have := cutI_zero c; rw [hf0] at this; exact z0 (Option.some.inj this)] at k
            exact k _ s1
          refine Rd.yes z0 ?_
          subst z0
          walk_at "rd"
          refine Rd.ixT (.of hq1) (last_int em) ?_
          walk_at "rd"
          refine Rd.lenStr zl ?_
          walk_at "rd"
          by_cases mt : m < (z.length : Int)
          rotate_left
          · refine Rd.yes (by omega) ?_
            walk_at "rd"
            rw [cutB_no fun c => mt (cutI_top c m (List.mem_of_getLast? em)).2] at k
            exact k _ s1
          refine Rd.no (by omega) ?_
          walk_at "rd"
          have nn : P.map V.int ≠ [] := fun e => p0 (by have := congrArg List.length e; rw [List.length_map] at this; exact this)
          refine Rw.sl1 (.of hq1) nn (Rd.new fun q2 G2 nq2 gq2 s2 => ?_)
          rw [← List.map_tail] at gq2
          have hq2 := s2 _ _ hq1
          walk_at "rd"
          have hml : min (P.map V.int).length (P.tail.map V.int).length = P.length - 1 := by rw [List.length_map, List.length_map, List.length_tail]; omega
          refine Rw.zipT (xs := P.map V.int) (ys := P.tail.map V.int) (.of hq2) (.of gq2) ?_
          refine Rd.lcS (Rw.walk_zipT hml.symm) (fun _ s => ⟨.of (s _ _ hq2), .of (s _ _ gq2)⟩) (fun D i acc _ => ∃ bs : List Bool, acc = bs.map V.bl ∧ bs.length = i ∧ (bs.all id = true ↔ ∀ j a b, j < i → P[j]? = some a → P[j + 1]? = some b → a < b)) (fun _ _ _ _ _ => ⟨[], rfl, rfl, fun _ j a b h => absurd h (Nat.not_lt_zero _), fun _ => rfl⟩) ?_ ?_
          · rintro D i x G _ acc nD hi hD sm ⟨bs, rfl, bl, ba⟩ ⟨T', x', y', rfl, hT, rfl, hx, hy⟩
            obtain ⟨c, d, hc, hd, rfl, rfl⟩ := zip_int hx hy
            have sT := Rd.same_upd (o := .tup [.int c, .int d]) hT
            have gT : upd G T' (.tup [.int c, .int d]) T' = some (.tup [.int c, .int d]) := upd_same
            generalize upd G T' (.tup [.int c, .int d]) = G3 at sT gT
            refine Rd.tupT (.of gT) rfl ?_
            walk_at "rd"
            refine ⟨rfl, ?_⟩
            walk_at "rd"
            have smT := sm.trans sT
            refine Rd.lcPush (sT _ _ hD) nD smT (by rw [List.length_map, sizeLine_eq]; omega) fun G _ _ => ?_
            refine ⟨bs ++ [decide (c < d)], by rw [List.map_append]; rfl, by rw [List.length_append, bl]; rfl, ?_⟩
            rw [List.all_append, Bool.and_eq_true, ba, List.all_cons, List.all_nil, Bool.and_true]
            constructor
            · rintro ⟨h1, h2⟩ j a b hj ha hb
              by_cases e : j < i
              · exact h1 j a b e ha hb
              · have : j = i := by omega
                subst this
                rw [hc] at ha
                rw [hd] at hb
                cases ha
                cases hb
                exact of_decide_eq_true h2
            · exact fun h => ⟨fun j a b hj => h j a b (by omega), decide_eq_true (h i c d (by omega) hc hd)⟩
          · rintro D acc G3 nD hD s3 ⟨bs, rfl, bl, ba⟩
            walk_at "rd"
            refine Rd.all (.of hD) ?_
            have s13 := (s1.trans s2).trans s3
            have hq3 := s3 _ _ hq2
            clear hD nD hq2 gq2 nq2
            cases ca : bs.all id with
            | false =>
              walk_at "rd"
              rw [cutB_no fun c => by
                have := ba.mpr fun j a b _ ha hb => steps_of_asc (cutI_asc c) ha hb
                rw [ca] at this
                cases this] at k
              exact k _ s13
            | true =>
              have asc : P.Pairwise (· < ·) := asc_of_steps fun i a b ha hb => ba.mp ca i a b (by have := (List.getElem?_eq_some_iff.mp hb).1; omega) ha hb
              obtain ⟨N, eN, nAsc, nz, nt⟩ := nats_of asc hf0 em mt
              walk_at "rd"
              refine ⟨a, ws, z, rfl, hS.same s13, hw, w100, zl0, fun p G4 hL s4 _ _ => ?_⟩
              have s14 := s13.trans s4
              have hq4 := s4 _ _ hq3
              obtain ⟨rs, hp, rl, hr4⟩ := hL
              walk_at "rd"
              refine Rd.forS ?_
              walk_at "rd"
              refine ⟨⟨_, .of hq4⟩, for_tup (K := K) (a := q) (xs := P.map V.int) (fun i σ H' => ∃ (o3 : Option V), σ = [some (.ref a), some (.str z), some (.ref q), o3, some (.ref p), none, none] ∧ Same G4 H' ∧ ∀ x ∈ N.take i, ∀ y, Mw.Adj ws z x y → y ∈ N)
                ⟨none, rfl, Same.refl _, fun x m => nomatch m⟩ (fun i σ H' _ ⟨_, _, s, _⟩ => .of (s _ _ hq4)) ?_ ?_⟩
              · rintro i x0 _ G5 hx ⟨o3, rfl, s5, sh⟩
                obtain ⟨v', ev', rfl⟩ := Rd.map_get hx
                obtain ⟨v, ev, rfl⟩ : ∃ v : Nat, N[i]? = some v ∧ v' = (v : Nat) := by
                  rw [eN, List.getElem?_map] at ev'
                  cases e : N[i]? with
                  | none => rw [e] at ev'; cases ev'
                  | some v => rw [e] at ev'; exact ⟨v, rfl, (Option.some.inj ev').symm⟩
                have vm := List.mem_of_getElem? ev
                have vt := nt v vm
                have hrow : v < rs.length := by omega
                obtain ⟨ms, m1, mp, m2⟩ := hr4 v _ (List.getElem?_eq_getElem hrow)
                walk_at "rd"
                refine Rd.ixL (s5.seq hp) (atI_nat (Rd.map_ref hrow)) ?_
                walk_at "rd"
                have m15 := s5.seq m1
                refine ⟨⟨_, m15⟩, Rd.lcS walk_list (fun _ s => s.seq m15) (fun D i acc _ => acc = ((ms.take i).map fun w => decide (w ∈ P)).map V.bl) (fun _ _ _ _ _ => rfl) ?_ ?_⟩
                · rintro D j x G _ acc nD hi hD sm rfl ⟨rfl, hx2⟩
                  obtain ⟨w0, hw0, rfl⟩ := Rd.map_get hx2
                  rw [List.length_map] at hi
                  have ml := mp.2
                  walk_at "rd"
                  refine ⟨rfl, ?_⟩
                  walk_at "rd"
                  refine Rd.inIntsY (ws := P) (.inr (.of (sm _ _ (s5 _ _ hq4)))) ?_
                  refine Rd.lcPush hD nD sm (by rw [List.length_map, List.length_map, List.length_take, sizeLine_eq]; omega) fun G _ _ => ?_
                  rw [Rd.take_snoc hw0, List.map_append, List.map_append]
                  rfl
                · rintro D acc G6 nD hD s6 rfl
                  rw [List.length_map, List.take_length] at hD
                  walk_at "rd"
                  refine Rd.all (.of hD) ?_
                  have ia : ((ms.map fun w => decide (w ∈ P)).all id = true) ↔ ∀ y, Mw.Adj ws z v y → y ∈ N := by
                    rw [List.all_map, List.all_eq_true]
                    constructor
                    · intro h y ay
                      have := h _ ((m2 _).mpr ⟨y, rfl, ay⟩)
                      have := of_decide_eq_true this
                      rw [eN] at this
                      exact nat_mem.mp this
                    · intro h x mx
                      obtain ⟨w1, rfl, aw⟩ := (m2 x).mp mx
                      exact decide_eq_true (by rw [eN]; exact nat_mem.mpr (h w1 aw))
                  cases cv : (ms.map fun w => decide (w ∈ P)).all id with
                  | true =>
                    walk_at "rd"
                    refine ⟨_, rfl, s5.trans s6, fun x mx => ?_⟩
                    rw [Rd.take_snoc ev] at mx
                    rcases List.mem_append.mp mx with mx | mx
                    · exact sh x mx
                    · rw [List.mem_singleton.mp mx]
                      exact ia.mp cv
                  | false =>
                    walk_at "rd"
                    rw [cutB_no fun c => by
                      obtain ⟨N2, e2, c⟩ := c
                      have : N2 = N := by
                        have : N2.map (fun i : Nat => (i : Int)) = N.map (fun i : Nat => (i : Int)) := by rw [← e2, ← eN]
                        exact (List.map_inj_right fun x y e => by omega).mp this
                      subst this
                      have := ia.mpr fun y ay => c.shut v vm y ay
                      rw [cv] at this
                      cases this] at k
                    exact k _ ((s14.trans s5).trans s6)
              · rintro _ G5 ⟨o3, rfl, s5, sh⟩
                have nl : (P.map V.int).length = N.length := by rw [List.length_map, eN, List.length_map]
                rw [nl, List.take_length] at sh
                walk_at "rd"
                rw [cutB_yes ⟨N, eN, nAsc, nz, nt, sh⟩] at k
                exact k _ (s14.trans s5)

end
end W

namespace W
open PySem PySem.Spec PyProof.Rows L2
section
variable {P : Program} {w : World} {K : PySem.W.Frag} {mg : Str → Option Value} {base : Heap}
/-! ### zigzags: anything judged -/
def ZigI (A : Nat → Nat → Prop) (n : Nat) (P : List Int) : Prop := ∃ N : List Nat, P = N.map (fun i : Nat => (i : Int)) ∧ Mp.ZigX A n 0 N
noncomputable def zigB (ws : List Str) (z : Str) (o : Option (List Int)) : Bool := @decide (∃ P, o = some P ∧ ZigI (Mw.Adj ws z) z.length P) (Classical.propDecidable _)
theorem zigB_iff {ws : List Str} {z : Str} {o : Option (List Int)} : zigB ws z o = true ↔ ∃ P, o = some P ∧ ZigI (Mw.Adj ws z) z.length P := by
  unfold zigB
  exact @decide_eq_true_iff _ (Classical.propDecidable _)
theorem zigB_none {ws : List Str} {z : Str} : zigB ws z none = false := Bool.eq_false_iff.mpr fun h => let ⟨_, e, _⟩ := zigB_iff.mp h; nomatch e
theorem zigB_no {ws : List Str} {z : Str} {P : List Int} (h : ¬ ZigI (Mw.Adj ws z) z.length P) : zigB ws z (some P) = false := Bool.eq_false_iff.mpr fun q => let ⟨_, e, c⟩ := zigB_iff.mp q; h (by cases e; exact c)
theorem zigB_yes {ws : List Str} {z : Str} {P : List Int} (h : ZigI (Mw.Adj ws z) z.length P) : zigB ws z (some P) = true := zigB_iff.mpr ⟨P, rfl, h⟩
theorem zig_head {A : Nat → Nat → Prop} {n : Nat} {P : List Int} (h : ZigI A n P) : P[0]? = some 0 := by
  obtain ⟨N, rfl, c⟩ := h
  rw [List.getElem?_map, c.head]
  rfl
theorem zig_last {A : Nat → Nat → Prop} {n : Nat} {P : List Int} (h : ZigI A n P) : P.getLast? = some (n : Int) := by
  obtain ⟨N, rfl, c⟩ := h
  rw [List.getLast?_map, c.last]
  rfl
theorem zig_nd {A : Nat → Nat → Prop} {n : Nat} {P : List Int} (h : ZigI A n P) : P.Nodup := by
  obtain ⟨N, rfl, c⟩ := h
  rw [List.nodup_iff_pairwise_ne, List.pairwise_map]
  exact (List.nodup_iff_pairwise_ne.mp c.nd).imp fun h e => h (by omega)
theorem zig_adj {A : Nat → Nat → Prop} {n : Nat} {P : List Int} (h : ZigI A n P) {i : Nat} {a b : Int} (ha : P[i]? = some a) (hb : P[i + 1]? = some b) : ∃ c d : Nat, a = (c : Int) ∧ b = (d : Int) ∧ A c d := by
  obtain ⟨N, rfl, c⟩ := h
  rw [List.getElem?_map] at ha hb
  cases e1 : N[i]? with
  | none => rw [e1] at ha; cases ha
  | some x =>
    cases e2 : N[i + 1]? with
    | none => rw [e2] at hb; cases hb
    | some y =>
      rw [e1] at ha
      rw [e2] at hb
      exact ⟨x, y, (Option.some.inj ha).symm, (Option.some.inj hb).symm, c.adj i x y e1 e2⟩
theorem zig_two {A : Nat → Nat → Prop} {n : Nat} {P : List Int} (h : ZigI A n P) (n0 : n ≠ 0) : 2 ≤ P.length := by
  obtain ⟨N, rfl, c⟩ := h
  rw [List.length_map]
  exact c.len (by omega)
theorem zig_of {A : Nat → Nat → Prop} {n : Nat} {P : List Int} (h0 : P[0]? = some 0) (hl : P.getLast? = some (n : Int)) (nd : P.Nodup) (ad : ∀ (i : Nat) (a b : Int), P[i]? = some a → P[i + 1]? = some b → ∃ c d : Nat, a = (c : Int) ∧ b = (d : Int) ∧ A c d) : ZigI A n P := by
  have nat : ∀ (i : Nat) (a : Int), P[i]? = some a → 0 ≤ a := fun i a ha => by
    obtain ⟨li, _⟩ := List.getElem?_eq_some_iff.mp ha
    by_cases c : i + 1 < P.length
    · obtain ⟨x, y, e, _⟩ := ad i a _ ha (List.getElem?_eq_getElem c)
      omega
    · rw [List.getLast?_eq_getElem?] at hl
      have : P.length - 1 = i := by omega
      rw [this, ha] at hl
      have := Option.some.inj hl
      omega
  have e : P = (P.map Int.toNat).map (fun i : Nat => (i : Int)) := by
    rw [List.map_map]
    conv => lhs; rw [← List.map_id P]
    refine List.map_congr_left fun x mx => ?_
    obtain ⟨i, hi, ex⟩ := List.getElem_of_mem mx
    have := nat i x (List.getElem?_eq_some_iff.mpr ⟨hi, ex⟩)
    show x = ((x.toNat : Nat) : Int)
    omega
  refine ⟨P.map Int.toNat, e, ?_, ?_, ?_, fun i a b ha hb => ?_⟩
  · rw [List.getElem?_map, h0]
    rfl
  · rw [List.getLast?_map, hl]
    rfl
  · rw [e] at nd
    rw [List.nodup_iff_pairwise_ne, List.pairwise_map] at nd
    rw [List.nodup_iff_pairwise_ne]
    exact nd.imp fun h e => h (by rw [e])
  · rw [List.getElem?_map] at ha hb
    cases e1 : P[i]? with
    | none => rw [e1] at ha; cases ha
    | some x =>
      cases e2 : P[i + 1]? with
      | none => rw [e2] at hb; cases hb
      | some y =>
        rw [e1] at ha
        rw [e2] at hb
        obtain ⟨c, d, rfl, rfl, h⟩ := ad i x y e1 e2
        cases ha
        cases hb
        exact h
theorem nodup_len : ∀ {P ks : List Int}, ks.Nodup → (∀ k, k ∈ ks ↔ k ∈ P) → (ks.length = P.length ↔ P.Nodup)
  | [], ks, _, h => by
    have : ks = [] := List.eq_nil_iff_forall_not_mem.mpr fun k m => nomatch (h k).mp m
    rw [this]
    exact ⟨fun _ => .nil, fun _ => rfl⟩
  | a :: P, ks, nd, h => by
    by_cases m : a ∈ P
    · have : ks.length ≤ P.length := Mw.nodup_le ks P nd fun k mk => by
        rcases List.mem_cons.mp ((h k).mp mk) with e | q
        · rw [e]; exact m
        · exact q
      refine ⟨fun e => ?_, fun q => absurd m (List.nodup_cons.mp q).1⟩
      rw [List.length_cons] at e
      omega
    · have ma : a ∈ ks := (h a).mpr (List.mem_cons_self ..)
      have p : ks.Perm (a :: ks.erase a) := List.perm_cons_erase ma
      have nd2 := (p.nodup_iff.mp nd)
      obtain ⟨n1, n2⟩ := List.nodup_cons.mp nd2
      have ih := nodup_len (P := P) (ks := ks.erase a) n2 fun k => by
        constructor
        · intro q
          rcases List.mem_cons.mp ((h k).mp (p.mem_iff.mpr (List.mem_cons_of_mem _ q))) with e | q2
          · rw [e] at q; exact absurd q n1
          · exact q2
        · intro q
          rcases List.mem_cons.mp (p.mem_iff.mp ((h k).mpr (List.mem_cons_of_mem _ q))) with e | q2
          · rw [e] at q; exact absurd q m
          · exact q2
      rw [p.length_eq, List.length_cons, List.length_cons, List.nodup_cons]
      exact ⟨fun e => ⟨m, ih.mp (by omega)⟩, fun e => by have := ih.mpr e.2; omega⟩
def sp_is_zigzag (K : PySem.W.Frag) (C : Addr) : Sp := fun vs H Q _ => ∃ (b : Addr) (x : V) (ws : List Str) (z : Str) (o : Option (List Int)), vs = [.ref b, .str z, x] ∧ BookAt C H b ws ∧ Watches ws ∧ Lt.Wd 40 z ∧ CutOf K H x o ∧ ∀ H', Same H H' → Q (.bl (zigB ws z o)) H'
def sp_is_cut (K : PySem.W.Frag) (C : Addr) : Sp := fun vs H Q _ => ∃ (b : Addr) (x : V) (ws : List Str) (z : Str) (o : Option (List Int)), vs = [.ref b, .str z, x] ∧ BookAt C H b ws ∧ Watches ws ∧ Lt.Wd 40 z ∧ CutOf K H x o ∧ ∀ H', Same H H' → Q (.bl (cutB ws z o)) H'
theorem ok_is_cut (T : Txt K mg) : FnOk P w K mg base CX0 5 T.f_is_cut T.fd_is_cut ["book", "word", "thing"] (sp_is_cut K T.C_Book) := by
  refine T.F_is_cut.ok sc_is_cut (fun vs H Q E h => ?_) (fun cdv A outer s H vs Q E hr h => ?_)
  · obtain ⟨b, x, ws, z, o, rfl, _⟩ := h
    rfl
  · obtain ⟨b, x, ws, z, o, rfl, hB, L, hz, hx, k⟩ := h
    refine ⟨_, (pss_cons (ps_expr (pe_call (ok_check_book T) (hr.mono (by decide)) rfl T.g_check_book T.F_check_book.kp T.b_check_book .nil pass0 (pa_cons (pv 0) pa_nil)))
  (pss_cons (ps_expr (pe_call (ok_check_word T) (hr.mono (by decide)) rfl T.g_check_word T.F_check_word.kp T.b_check_word .nil pass0 (pa_cons (pv 1) pa_nil)))
  (pss_one (ps_ret (pe_call (ok_fits_cut T) (hr.mono (by decide)) rfl T.g_fits_cut T.F_fits_cut.kp T.b_fits_cut .nil pass0 (pa_cons (pe_fld (pv 0) rfl) (pa_cons (pv 1) (pa_cons (pv 2) pa_nil)))))))), ?_⟩
    have z1 := hz.l1
    have w12 := L.l1
    walk_at "rd"
    refine ⟨b, ws, rfl, hB, ?_⟩
    walk_at "rd"
    refine ⟨z, rfl, hz, fun H1 s1 => ?_⟩
    walk_at "rd"
    obtain ⟨dx, t, hb1, ht1⟩ := hB.same s1
    refine Rd.fld hb1 T.cl_Book T.na_Book_watches rfl ?_
    walk_at "rd"
    refine ⟨t, x, ws, z, o, rfl, .inr (.of ht1), watch_sm L, by omega, by omega, hx.same s1, fun H2 s2 => ?_⟩
    exact k _ (s1.trans s2)
theorem ok_is_zigzag (T : Txt K mg) : FnOk P w K mg base CX0 5 T.f_is_zigzag T.fd_is_zigzag ["book", "word", "thing"] (sp_is_zigzag K T.C_Book) := by
  refine T.F_is_zigzag.ok sc_is_zigzag (fun vs H Q E h => ?_) (fun cdv A outer s H vs Q E hr h => ?_)
  · obtain ⟨b, x, ws, z, o, rfl, _⟩ := h
    rfl
  · obtain ⟨b, x, ws, z, o, rfl, hB, L, hz, hx0, k⟩ := h
    refine ⟨_, (pss_cons (ps_expr (pe_call (ok_check_book T) (hr.mono (by decide)) rfl T.g_check_book T.F_check_book.kp T.b_check_book .nil pass0 (pa_cons (pv 0) pa_nil)))
  (pss_cons (ps_expr (pe_call (ok_check_word T) (hr.mono (by decide)) rfl T.g_check_word T.F_check_word.kp T.b_check_word .nil pass0 (pa_cons (pv 1) pa_nil)))
  (pss_cons (ps_if (PW.pt (pw_or (pt_not (pt_val (pe_callB (id := "isinstance") (r := rIsi K) call_isi (by rfl) T.n_isinstance (by decide +kernel) (pa_cons (pv 2) (pa_cons (pe_bltn (v := .ty "tuple") (u := .type "tuple") (by rfl) T.n_tuple (by decide +kernel) rfl) pa_nil))))) (pw_or (pt_cmpR op_lt (pe_callB (id := "len") (r := Rd.nLen K) Rd.c_len (by rfl) T.n_len (by decide +kernel) (pa_cons (pv 2) pa_nil)) pe_int (nomark _)) (pw_or1 (pt_not (pt_val (pe_callB (id := "all") (r := rAll K) (cr_all rfl) (by rfl) T.n_all (by decide +kernel) (pa_cons (pe_lc (own := [("spot", 6)]) (g := gName 6) (tt := tYes) rfl sc_is_zigzag.nd (pi_tup (pv 2)) (blkOk_by (own := [("spot", 6)]) (N := ["book", "word", "thing", "links", "one", "other", "spot"]) (sc := defScope s_is_zigzag) (by decide +kernel)) (fun _ _ _ _ _ => (pg_name (i := 6) sc_is_zigzag.nd rfl (.inl rfl))) (fun _ _ _ _ _ => pts_nil) (fun _ _ _ _ _ => (pe_call (ok_is_integer T) (hr.mono (by decide)) rfl T.g_is_integer T.F_is_integer.kp T.b_is_integer .nil pass0 (pa_cons (pv 6) pa_nil)))) pa_nil))))))))
  (pss_one (ps_ret pe_bl))
  pss_nil)
  (pss_cons (ps_if (PW.pt (pw_or (pt_cmpR op_ne (pe_ix (r := rIxT K) ix_tup (pv 2) pe_int (fun _ _ => rfl)) pe_int (nomark _)) (pw_or (pt_cmpR op_ne (pe_ix (r := rIxT K) ix_tup (pv 2) (pe_un un_neg pe_int) (fun _ _ => rfl)) (pe_callB (id := "len") (r := _) Rd.c_lenS (by rfl) T.n_len (by decide +kernel) (pa_cons (pv 1) pa_nil)) (nomark _)) (pw_or1 (pt_cmpR op_ne (Rv.pe_lenSetT rfl (by rfl) T.n_len (by rfl) T.n_set (pv 2)) (pe_callB (id := "len") (r := Rd.nLen K) Rd.c_len (by rfl) T.n_len (by decide +kernel) (pa_cons (pv 2) pa_nil)) (nomark _))))))
  (pss_one (ps_ret pe_bl))
  pss_nil)
  (pss_cons (ps_set (i := 3) sc_is_zigzag.nd rfl (.inl rfl) (pe_call (ok_links_of T) (hr.mono (by decide)) rfl T.g_links_of T.F_links_of.kp T.b_links_of .nil pass0 (pa_cons (pe_fld (pv 0) rfl) (pa_cons (pv 1) pa_nil))))
  (pss_cons (ps_for PassesOwn.never rfl (RZ.pi_zipA (by rfl) T.n_zip (pa_cons (pv 2) (pa_cons (pe_slice (r := rSlT K) sl_tup (pv 2) (po_some pe_int) po_none) pa_nil))) (pg_tup rfl (pgs_cons (pg_name (i := 4) sc_is_zigzag.nd rfl (.inl rfl)) (pgs_cons (pg_name (i := 5) sc_is_zigzag.nd rfl (.inl rfl)) pgs_nil)))
  (pss_one (ps_if (PW.pt (pw_or (pt_not (pt_chain op_le op_le pe_int (pv 4) (pe_callB (id := "len") (r := _) Rd.c_lenS (by rfl) T.n_len (by decide +kernel) (pa_cons (pv 1) pa_nil)))) (pw_or1 (pt_cmpR (r := rIn K true) op_notIn_seq (pv 5) (pe_ix (r := rIxL K) ix_list (pv 3) (pv 4) (fun _ _ => rfl)) (by rfl)))))
  (pss_one (ps_ret pe_bl))
  pss_nil)))
  (pss_one (ps_ret pe_bl)))))))), ?_⟩
    have z1 := hz.l1
    have z0 := hz.l0
    have zl : z.length ≤ sizeLine := hz.line (by decide)
    have w12 := L.l1
    walk_at "rd"
    refine ⟨b, ws, rfl, hB, ?_⟩
    walk_at "rd"
    refine ⟨z, rfl, hz, fun H1 s1 => ?_⟩
    have hx := hx0.same s1
    walk_at "rd"
    cases hx with
    | odd h s =>
      rw [zigB_none] at k
      refine Rx.askTup h ?_
      rw [s]
      walk_at "rd"
      exact k _ s1
    | own g c o m =>
      rw [zigB_none] at k
      refine ask_own g c o m ?_
      walk_at "rd"
      exact k _ s1
    | @mix q xs j y kd g l ks hy hk n =>
      rw [zigB_none] at k
      have jl := (List.getElem?_eq_some_iff.mp hy).1
      refine Rd.isi (Ru.ty_T (.of g)) (by decide +kernel : kitB "tuple" "tuple" = some true) ?_
      walk_at "rd"
      refine Rd.len (.inr (.of g)) ?_
      walk_at "rd"
      by_cases x2 : xs.length < 2
      · refine Rd.yes (by omega) ?_
        walk_at "rd"
        exact k _ s1
      refine Rd.no (by omega) ?_
      walk_at "rd"
      refine ⟨⟨_, .of g⟩, Rd.lcS walk_tup (fun _ s => .of (s _ _ g)) (fun D i acc _ => ∃ bs : List Bool, acc = bs.map V.bl ∧ bs.length = i ∧ (j < i → bs.all id = false)) (fun _ _ _ _ _ => ⟨[], rfl, rfl, fun h => absurd h (Nat.not_lt_zero _)⟩) ?_ ?_⟩
      · rintro D i x G _ acc nD hi hD sm ⟨bs, rfl, bl, ba⟩ ⟨rfl, hx⟩
        obtain ⟨kx, hkx⟩ := ks x (List.mem_of_getElem? hx)
        walk_at "rd"
        refine ⟨rfl, ?_⟩
        walk_at "rd"
        refine ⟨x, kx, rfl, hkx.same sm, ?_⟩
        refine Rd.lcPush hD nD sm (by rw [List.length_map, sizeLine_eq]; omega) fun G _ _ => ?_
        refine ⟨bs ++ [kx.isNum], by rw [List.map_append]; rfl, by rw [List.length_append, bl]; rfl, fun h => ?_⟩
        rw [List.all_append]
        by_cases c : j < i
        · rw [ba c]
          rfl
        · have : j = i := by omega
          subst this
          rw [hx] at hy
          cases hy
          have : kx = kd := hkx.inj hk
          rw [this, n]
          exact Bool.and_false _
      · rintro D acc G1 nD hD s2 ⟨bs, rfl, bl, ba⟩
        walk_at "rd"
        refine Rd.all (.of hD) ?_
        rw [ba jl]
        walk_at "rd"
        exact k _ (s1.trans s2)
    | @nums q P hq p1000 =>
      refine Rd.isi (Ru.ty_T (.of hq)) (by decide +kernel : kitB "tuple" "tuple" = some true) ?_
      walk_at "rd"
      refine Rd.len (.inr (.of hq)) ?_
      rw [List.length_map]
      walk_at "rd"
      by_cases x2 : P.length < 2
      · refine Rd.yes (by omega) ?_
        walk_at "rd"
        rw [zigB_no fun c => by have := zig_two c (by omega); omega] at k
        exact k _ s1
      refine Rd.no (by omega) ?_
      walk_at "rd"
      refine ⟨⟨_, .of hq⟩, Rd.lcS walk_tup (fun _ s => .of (s _ _ hq)) (fun D i acc _ => acc = (List.replicate i true).map V.bl) (fun _ _ _ _ _ => rfl) ?_ ?_⟩
      · rintro D i x G _ acc nD hi hD sm rfl ⟨rfl, hx⟩
        obtain ⟨v, ev, rfl⟩ := Rd.map_get hx
        rw [List.length_map] at hi
        walk_at "rd"
        refine ⟨rfl, ?_⟩
        walk_at "rd"
        refine intI ?_
        refine Rd.lcPush hD nD sm (by rw [List.length_map, List.length_replicate, sizeLine_eq]; omega) fun G _ _ => ?_
        rw [List.replicate_succ', List.map_append]
        rfl
      · rintro D acc G1 nD hD s2 rfl
        walk_at "rd"
        refine Rd.all (.of hD) ?_
        rw [show (List.replicate (P.map V.int).length true).all id = true by simp]
        have hq2 := s2 _ _ hq
        have s02 := s1.trans s2
        clear hD nD
        obtain ⟨f0, hf0⟩ : ∃ f, P[0]? = some f := ⟨_, List.getElem?_eq_getElem (by omega)⟩
        obtain ⟨m, em⟩ : ∃ m, P.getLast? = some m := by
          cases e : P.getLast? with
          | none => rw [List.getLast?_eq_none_iff] at e; rw [e] at x2; exact absurd (by decide) x2
          | some m => exact ⟨m, rfl⟩
        walk_at "rd"
        refine Rd.ixT (.of hq2) (atI_nat (j := 0) (by rw [List.getElem?_map, hf0]; rfl)) ?_
        walk_at "rd"
        by_cases z0' : f0 = 0
        rotate_left
        · refine Rd.no z0' ?_
          walk_at "rd"
          rw [zigB_no fun c => by have := zig_head c; rw [hf0] at this; exact z0' (Option.some.inj this)] at k
          exact k _ s02
        refine Rd.yes z0' ?_
        subst z0'
        walk_at "rd"
        refine Rd.ixT (.of hq2) (last_int em) ?_
        walk_at "rd"
        refine Rd.lenStr zl ?_
        walk_at "rd"
        by_cases mn : m = (z.length : Int)
        rotate_left
        · refine Rd.no mn ?_
          walk_at "rd"
          rw [zigB_no fun c => by have := zig_last c; rw [em] at this; exact mn (Option.some.inj this)] at k
          exact k _ s02
        refine Rd.yes mn ?_
        subst mn
        walk_at "rd"
        refine Rv.lenSetT ?_
        walk_at "rd"
        refine ⟨q, P, rfl, .of hq2, by omega, fun ks k1 k2 => ?_⟩
        have nl := nodup_len k1 k2
        walk_at "rd"
        refine Rd.len (.inr (.of hq2)) ?_
        rw [List.length_map]
        walk_at "rd"
        by_cases nd : P.Nodup
        rotate_left
        · refine Rd.no (fun e => nd (nl.mp (by omega))) ?_
          walk_at "rd"
          rw [zigB_no fun c => nd (zig_nd c)] at k
          exact k _ s02
        have nl := nl.mpr nd
        refine Rd.yes (by omega) ?_
        walk_at "rd"
        obtain ⟨dx, t, hb1, ht1⟩ := hB.same s02
        refine Rd.fld hb1 T.cl_Book T.na_Book_watches rfl ?_
        walk_at "rd"
        refine ⟨t, ws, z, rfl, .inr (.of ht1), watch_sm L, by omega, by omega, fun p G4 hL s4 _ _ => ?_⟩
        have s04 := s02.trans s4
        have hq4 := s4 _ _ hq2
        obtain ⟨rs, hp, rl, hr4⟩ := hL
        walk_at "rd"
        refine Rd.forS ?_
        walk_at "rd"
        have nn : P.map V.int ≠ [] := fun e => x2 (by have := congrArg List.length e; rw [List.length_map] at this; simp at this; rw [this]; decide)
        refine Rw.sl1 (.of hq4) nn (Rd.new fun q5 G5 nq5 gq5 s5 => ?_)
        rw [← List.map_tail] at gq5
        have hq5 := s5 _ _ hq4
        walk_at "rd"
        have hml : min (P.map V.int).length (P.tail.map V.int).length = P.length - 1 := by rw [List.length_map, List.length_map, List.length_tail]; omega
        refine Rw.zipT (xs := P.map V.int) (ys := P.tail.map V.int) (.of hq5) (.of gq5) ?_
        refine for_it (Rw.walk_zipT hml.symm) (fun i σ H' => ∃ (o4 o5 : Option V), σ = [some (.ref b), some (.str z), some (.ref q), some (.ref p), o4, o5, none] ∧ Same G5 H' ∧ ∀ (j : Nat) (a b : Int), j < i → P[j]? = some a → P[j + 1]? = some b → ∃ c d : Nat, a = (c : Int) ∧ b = (d : Int) ∧ Mw.Adj ws z c d)
          ⟨none, none, rfl, Same.refl _, fun j a b h => absurd h (Nat.not_lt_zero _)⟩ (fun i σ H' _ ⟨_, _, _, s, _⟩ => ⟨.of (s _ _ hq5), .of (s _ _ gq5)⟩) ?_ ?_
        · rintro i x0 _ G6 _ hi ⟨o4, o5, rfl, s6, ad⟩ ⟨T', x', y', rfl, hT, rfl, hx, hy⟩
          obtain ⟨c, d, hc, hd, rfl, rfl⟩ := zip_int hx hy
          have sT := Rd.same_upd (o := .tup [.int c, .int d]) hT
          have gT : upd G6 T' (.tup [.int c, .int d]) T' = some (.tup [.int c, .int d]) := upd_same
          generalize upd G6 T' (.tup [.int c, .int d]) = G7 at sT gT
          have s67 := s6.trans sT
          have s07 := (s04.trans s5).trans s67
          refine Rd.tupT (.of gT) rfl ?_
          walk_at "rd"
          by_cases c0 : 0 ≤ c
          rotate_left
          · refine Rd.no c0 ?_
            walk_at "rd"
            rw [zigB_no fun cc => by obtain ⟨x, y, e, _⟩ := zig_adj cc hc hd; omega] at k
            exact k _ s07
          refine Rd.yes c0 ?_
          walk_at "rd"
          refine Rd.lenStr zl ?_
          walk_at "rd"
          by_cases c1 : c ≤ (z.length : Int)
          rotate_left
          · refine Rd.no c1 ?_
            walk_at "rd"
            rw [zigB_no fun cc => by
              obtain ⟨x, y, e, _, a⟩ := zig_adj cc hc hd
              have := a.le.1
              omega] at k
            exact k _ s07
          refine Rd.yes c1 ?_
          walk_at "rd"
          obtain ⟨cn, rfl⟩ : ∃ cn : Nat, c = (cn : Nat) := ⟨c.toNat, by omega⟩
          have hrow : cn < rs.length := by omega
          obtain ⟨ms, m1, mp, m2⟩ := hr4 cn _ (List.getElem?_eq_getElem hrow)
          refine Rd.ixL ((s5.trans s67).seq hp) (atI_nat (Rd.map_ref hrow)) ?_
          walk_at "rd"
          refine Rd.inIntsN (.inl ((s5.trans s67).seq m1)) ?_
          walk_at "rd"
          by_cases dm : d ∈ ms
          · refine Rd.yes dm ?_
            walk_at "rd"
            obtain ⟨w, ew, aw⟩ := (m2 d).mp dm
            refine ⟨_, _, rfl, s67, fun j a b hj ha hb => ?_⟩
            by_cases e : j < i
            · exact ad j a b e ha hb
            · have : j = i := by omega
              subst this
              rw [hc] at ha
              rw [hd] at hb
              cases ha
              cases hb
              exact ⟨cn, w, rfl, ew, aw⟩
          · refine Rd.no dm ?_
            walk_at "rd"
            rw [zigB_no fun cc => by
              obtain ⟨x, y, e, e2, a⟩ := zig_adj cc hc hd
              have : x = cn := by omega
              subst this
              exact dm ((m2 d).mpr ⟨y, e2, a⟩)] at k
            exact k _ s07
        · rintro _ G6 ⟨o4, o5, rfl, s6, ad⟩
          walk_at "rd"
          rw [zigB_yes (zig_of hf0 em nd fun i a b ha hb => ad i a b (by have := (List.getElem?_eq_some_iff.mp hb).1; omega) ha hb)] at k
          exact k _ ((s04.trans s5).trans s6)

end
end W

namespace W
open PySem PySem.Spec PyProof.Rows L2
section
variable {P : Program} {w : World} {K : PySem.W.Frag} {mg : Str → Option Value} {base : Heap}
/-! ### cut and greatest_cut -/
theorem cut_sub {A : Nat → Nat → Prop} {n : Nat} (hA : ∀ i j, A i j → j ≤ n) (sy : ∀ i j, A i j → A j i) (no : ¬ Mw.Star A 0 n) : ∀ x ∈ Mc.cls A n 0, x ∈ cutG A n := fun x m => by
  have t := (cut_least hA no).top x m
  exact mem_cutG.mpr ⟨t, fun h => no ((Mc.mem_cls.mp m).2.trans (h.symm sy))⟩
def Ans (H H' : Hp) (t : Prop) (P : List Nat) (r : V) : Prop := (r = .non ∧ t) ∨ (¬ t ∧ ∃ q, r = .ref q ∧ H' q = some (.tup (natV P)) ∧ H q = none)
def sp_cut (K : PySem.W.Frag) (C : Addr) : Sp := fun vs H Q _ => ∃ (b : Addr) (ws : List Str) (z : Str), vs = [.ref b, .str z] ∧ BookAt C H b ws ∧ Watches ws ∧ Lt.Wd 40 z ∧ ∀ (r : V) H', Same H H' → Ans H H' (Mw.Told ws z) (Mc.cls (Mw.Adj ws z) z.length 0) r → Q r H'
def sp_greatest_cut (K : PySem.W.Frag) (C : Addr) : Sp := fun vs H Q _ => ∃ (b : Addr) (ws : List Str) (z : Str), vs = [.ref b, .str z] ∧ BookAt C H b ws ∧ Watches ws ∧ Lt.Wd 40 z ∧ ∀ (r : V) H', Same H H' → Ans H H' (Mw.Told ws z) (cutG (Mw.Adj ws z) z.length) r → Q r H'
theorem ok_cut (T : Txt K mg) : FnOk P w K mg base CX0 5 T.f_cut T.fd_cut ["book", "word"] (sp_cut K T.C_Book) := by
  refine T.F_cut.ok sc_cut (fun vs H Q E h => ?_) (fun cdv A outer s H vs Q E hr h => ?_)
  · obtain ⟨b, ws, z, rfl, _⟩ := h
    rfl
  · obtain ⟨b, ws, z, rfl, hB, L, hz, k⟩ := h
    refine ⟨_, (pss_cons (ps_expr (pe_call (ok_check_book T) (hr.mono (by decide)) rfl T.g_check_book T.F_check_book.kp T.b_check_book .nil pass0 (pa_cons (pv 0) pa_nil)))
  (pss_cons (ps_expr (pe_call (ok_check_word T) (hr.mono (by decide)) rfl T.g_check_word T.F_check_word.kp T.b_check_word .nil pass0 (pa_cons (pv 1) pa_nil)))
  (pss_cons (ps_set (i := 2) sc_cut.nd rfl (.inl rfl) (pe_call (ok_grown T) (hr.mono (by decide)) rfl T.g_grown T.F_grown.kp T.b_grown .nil pass0 (pa_cons (pe_call (ok_links_of T) (hr.mono (by decide)) rfl T.g_links_of T.F_links_of.kp T.b_links_of .nil pass0 (pa_cons (pe_fld (pv 0) rfl) (pa_cons (pv 1) pa_nil))) (pa_cons (pe_lst (pa_cons pe_int pa_nil)) pa_nil))))
  (pss_cons (ps_if (pt_cmpR (r := rIn K false) op_in_seq (pe_callB (id := "len") (r := _) Rd.c_lenS (by rfl) T.n_len (by decide +kernel) (pa_cons (pv 1) pa_nil)) (pv 2) (by rfl))
  (pss_one (ps_ret pe_non))
  pss_nil)
  (pss_one (ps_ret (pe_callTy (T := "tuple") (r := Rd.nTupOf K) Rd.c_tupOf (by rfl) T.n_tuple (by decide +kernel) (pa_cons (pe_callB (id := "sorted") (r := rSortedI K) cr_sortedI (by rfl) T.n_sorted (by decide +kernel) (pa_cons (pv 2) pa_nil)) pa_nil)))))))), ?_⟩
    have z1 := hz.l1
    have z0 := hz.l0
    have zl : z.length ≤ sizeLine := hz.line (by decide)
    have w12 := L.l1
    have le : ∀ i j, Mw.Adj ws z i j → j ≤ z.length := fun i j h => h.le.2
    walk_at "rd"
    refine ⟨b, ws, rfl, hB, ?_⟩
    walk_at "rd"
    refine ⟨z, rfl, hz, fun H1 s1 => ?_⟩
    walk_at "rd"
    obtain ⟨dx, t, hb1, ht1⟩ := hB.same s1
    refine Rd.fld hb1 T.cl_Book T.na_Book_watches rfl ?_
    walk_at "rd"
    refine ⟨t, ws, z, rfl, .inr (.of ht1), watch_sm L, by omega, by omega, fun p H2 hL s2 _ _ => ?_⟩
    walk_at "rd"
    refine ⟨Nat.le_of_ble_eq_true rfl, Rd.new fun q G nq gq s3 => ?_⟩
    walk_at "rd"
    refine ⟨p, q, z.length, Mw.Adj ws z, [((0 : Nat) : Int)], rfl, hL.same s3, .of gq, by omega, le, by simp, fun x hx => by rw [List.mem_singleton.mp hx]; omega, fun r gs G2 gr nd mem s4 nr => ?_⟩
    have mem0 : ∀ x : Int, x ∈ gs ↔ ∃ i : Nat, x = i ∧ Mw.Star (Mw.Adj ws z) 0 i := fun x => by
      rw [mem]
      constructor
      · rintro ⟨i, rfl, s', hs, st⟩
        have : s' = 0 := by have := List.mem_singleton.mp hs; omega
        subst this
        exact ⟨i, rfl, st⟩
      · rintro ⟨i, rfl, st⟩
        exact ⟨i, rfl, 0, List.mem_singleton_self _, st⟩
    have s14 := (((s1.trans s2).trans s3).trans s4)
    clear s2 s3 s4 s1 hL hb1 ht1 mem
    walk_at "rd"
    refine Rd.lenStr zl ?_
    walk_at "rd"
    refine Rd.inIntsY (.inl (.of gr)) ?_
    walk_at "rd"
    refine ite2 (fun c => ?_) (fun c => ?_)
    · walk_at "rd"
      obtain ⟨i, ei, st⟩ := (mem0 _).mp c
      have : i = z.length := by omega
      subst this
      exact k _ _ s14 (.inl ⟨rfl, st⟩)
    · have no : ¬ Mw.Told ws z := fun h => c ((mem0 _).mpr ⟨_, rfl, h⟩)
      walk_at "rd"
      refine Rd.sortedI (.of gr) fun ms p2 G3 pm ps gp s5 np => ?_
      walk_at "rd"
      refine Rd.tupOf (.of gp) (Rd.new fun q2 G4 nq2 gq2 s6 => ?_)
      have s16 := (s14.trans s5)
      have e : ms = (Mc.cls (Mw.Adj ws z) z.length 0).map fun i : Nat => (i : Int) := Mc.int_ext (sorted_lt ps (pm.nodup_iff.mpr nd)) (Mc.cls_lt _ 0) fun x => by
        rw [pm.mem_iff, mem0]
        constructor
        · rintro ⟨i, rfl, st⟩
          exact mem_nat.mpr (Mc.mem_cls.mpr ⟨Mc.star_le le (Nat.zero_le _) st, st⟩)
        · intro h
          obtain ⟨i, hi, rfl⟩ := List.mem_map.mp h
          exact ⟨i, rfl, (Mc.mem_cls.mp hi).2⟩
      exact k _ _ (s16.trans s6) (.inr ⟨no, q2, rfl, by rw [gq2, e]; rfl, s16.free nq2⟩)
theorem ok_greatest_cut (T : Txt K mg) : FnOk P w K mg base CX0 5 T.f_greatest_cut T.fd_greatest_cut ["book", "word"] (sp_greatest_cut K T.C_Book) := by
  refine T.F_greatest_cut.ok sc_greatest_cut (fun vs H Q E h => ?_) (fun cdv A outer s H vs Q E hr h => ?_)
  · obtain ⟨b, ws, z, rfl, _⟩ := h
    rfl
  · obtain ⟨b, ws, z, rfl, hB, L, hz, k⟩ := h
    refine ⟨_, (pss_cons (ps_expr (pe_call (ok_check_book T) (hr.mono (by decide)) rfl T.g_check_book T.F_check_book.kp T.b_check_book .nil pass0 (pa_cons (pv 0) pa_nil)))
  (pss_cons (ps_expr (pe_call (ok_check_word T) (hr.mono (by decide)) rfl T.g_check_word T.F_check_word.kp T.b_check_word .nil pass0 (pa_cons (pv 1) pa_nil)))
  (pss_cons (ps_set (i := 2) sc_greatest_cut.nd rfl (.inr rfl) (pe_call (ok_grown T) (hr.mono (by decide)) rfl T.g_grown T.F_grown.kp T.b_grown .nil pass0 (pa_cons (pe_call (ok_links_of T) (hr.mono (by decide)) rfl T.g_links_of T.F_links_of.kp T.b_links_of .nil pass0 (pa_cons (pe_fld (pv 0) rfl) (pa_cons (pv 1) pa_nil))) (pa_cons (pe_lst (pa_cons (pe_callB (id := "len") (r := _) Rd.c_lenS (by rfl) T.n_len (by decide +kernel) (pa_cons (pv 1) pa_nil)) pa_nil)) pa_nil))))
  (pss_cons (ps_if (pt_cmpR (r := rIn K false) op_in_seq pe_int (pv 2) (by rfl))
  (pss_one (ps_ret pe_non))
  pss_nil)
  (pss_one (ps_ret (pe_callTy (T := "tuple") (r := Rd.nTupOf K) Rd.c_tupOf (by rfl) T.n_tuple (by decide +kernel) (pa_cons (pe_lc (own := [("spot", 3)]) (g := gName 3)  rfl sc_greatest_cut.nd (pi_range1 rfl T.n_range (pa_cons (pe_callB (id := "len") (r := _) Rd.c_lenS (by rfl) T.n_len (by decide +kernel) (pa_cons (pv 1) pa_nil)) pa_nil)) (blkOk_by (own := [("spot", 3)]) (N := ["book", "word", "spots", "spot"]) (sc := defScope s_greatest_cut) (by decide +kernel)) (fun _ _ _ _ _ => (pg_name (i := 3) sc_greatest_cut.nd rfl (.inl rfl))) (fun _ _ _ _ _ => pts_one (pt_cmpR (r := rIn K true) op_notIn_seq (pv 3) (pv 2) (by rfl))) (fun _ _ _ _ _ => (pv 3))) pa_nil)))))))), ?_⟩
    have z1 := hz.l1
    have z0 := hz.l0
    have zl : z.length ≤ sizeLine := hz.line (by decide)
    have w12 := L.l1
    have le : ∀ i j, Mw.Adj ws z i j → j ≤ z.length := fun i j h => h.le.2
    have sy : ∀ i j, Mw.Adj ws z i j → Mw.Adj ws z j i := fun i j h => h.symm i j
    walk_at "rd"
    refine ⟨b, ws, rfl, hB, ?_⟩
    walk_at "rd"
    refine ⟨z, rfl, hz, fun H1 s1 => ?_⟩
    walk_at "rd"
    obtain ⟨dx, t, hb1, ht1⟩ := hB.same s1
    refine Rd.fld hb1 T.cl_Book T.na_Book_watches rfl ?_
    walk_at "rd"
    refine ⟨t, ws, z, rfl, .inr (.of ht1), watch_sm L, by omega, by omega, fun p H2 hL s2 _ _ => ?_⟩
    walk_at "rd"
    refine Rd.lenStr zl ?_
    walk_at "rd"
    refine ⟨Nat.le_of_ble_eq_true rfl, Rd.new fun q G nq gq s3 => ?_⟩
    walk_at "rd"
    refine ⟨p, q, z.length, Mw.Adj ws z, [(z.length : Int)], rfl, hL.same s3, .of gq, by omega, le, by simp, fun x hx => by rw [List.mem_singleton.mp hx]; omega, fun r gs G2 gr nd mem s4 nr => ?_⟩
    have mem0 : ∀ x : Int, x ∈ gs ↔ ∃ i : Nat, x = i ∧ Mw.Star (Mw.Adj ws z) z.length i := fun x => by
      rw [mem]
      constructor
      · rintro ⟨i, rfl, s', hs, st⟩
        have : s' = z.length := by have := List.mem_singleton.mp hs; omega
        subst this
        exact ⟨i, rfl, st⟩
      · rintro ⟨i, rfl, st⟩
        exact ⟨i, rfl, z.length, List.mem_singleton_self _, st⟩
    have s14 := (((s1.trans s2).trans s3).trans s4)
    clear s2 s3 s4 s1 hL hb1 ht1 mem
    walk_at "rd"
    refine Rd.inIntsY (.inl (.of gr)) ?_
    walk_at "rd"
    refine ite2 (fun c => ?_) (fun c => ?_)
    · walk_at "rd"
      obtain ⟨i, ei, st⟩ := (mem0 _).mp c
      have : i = 0 := by omega
      subst this
      exact k _ _ s14 (.inl ⟨rfl, st.symm sy⟩)
    · have no : ¬ Mw.Told ws z := fun h => c ((mem0 _).mpr ⟨0, rfl, h.symm sy⟩)
      walk_at "rd"
      refine Rd.lenStr zl ?_
      walk_at "rd"
      refine ⟨by omega, by omega, ?_⟩
      refine Rd.lcS walk_range (fun _ _ => trivial) (fun D i acc _ => acc = natV ((List.range i).filter (offB (Mw.Adj ws z) z.length))) (fun _ _ _ _ _ => rfl) ?_ ?_
      · rintro D i x G4 _ acc nD hi hD sm rfl ⟨rfl, rfl⟩
        have iz : i < z.length := by omega
        have st : (List.range (i + 1)).filter (offB (Mw.Adj ws z) z.length) = (List.range i).filter (offB (Mw.Adj ws z) z.length) ++ if offB (Mw.Adj ws z) z.length i = true then [i] else [] := by
          rw [List.range_succ, List.filter_append]
          congr 1
          cases e : offB (Mw.Adj ws z) z.length i <;> simp [e]
        have fl := List.length_filter_le (offB (Mw.Adj ws z) z.length) (List.range i)
        rw [List.length_range] at fl
        walk_at "rd"
        refine ⟨rfl, ?_⟩
        walk_at "rd"
        refine Rd.inIntsN (.inl (.of (sm _ _ gr))) ?_
        walk_at "rd"
        refine ite2 (fun c2 => ?_) (fun c2 => ?_)
        · refine ⟨_, hD, sm, ?_⟩
          dsimp only
          obtain ⟨j, ej, sj⟩ := (mem0 _).mp c2
          have : j = i := by omega
          subst this
          rw [st, if_neg (fun h => offB_iff.mp h sj), List.append_nil]
        · walk_at "rd"
          refine Rd.lcPush hD nD sm (by rw [natV_len, sizeLine_eq]; omega) fun G5 g5 off5 => ?_
          rw [st, if_pos (offB_iff.mpr fun h => c2 ((mem0 _).mpr ⟨i, by omega, h⟩))]
          show _ ++ [V.int (0 + (i : Int))] = _
          rw [Int.zero_add]
          unfold natV
          rw [List.map_append, List.map_append]
          rfl
      · rintro D acc G4 nD hD s5 rfl
        rw [Int.toNat_natCast] at hD
        walk_at "rd"
        refine Rd.tupOf (.of hD) (Rd.new fun q2 G5 nq2 gq2 s6 => ?_)
        exact k _ _ ((s14.trans s5).trans s6) (.inr ⟨no, q2, rfl, gq2, (s14.trans s5).free nq2⟩)
/-! ### judges, of true cuts and zigzags -/

end
end W

namespace W
open PySem PySem.Spec PyProof.Rows L2
section
variable {P : Program} {w : World} {K : PySem.W.Frag} {mg : Str → Option Value} {base : Heap}
/-! ### things that are judged as cuts and zigzags -/
/-- a thing that stands among cuts -/
def Cell (K : PySem.W.Frag) (H : Hp) (x : V) : Prop := ∃ o, CutOf K H x o
theorem Cell.same {H H' : Hp} {x : V} (s : Same H H') (h : Cell K H x) : Cell K H' x := let ⟨o, h⟩ := h; ⟨o, h.same s⟩
theorem is_keep {H H' : Hp} {l : Addr} {as bs : List V} (s : ∀ b o, b ≠ l → H b = some o → H' b = some o) (hl : H l = some (.lst as)) (hl' : H' l = some (.lst bs)) (lb : bs.length ≤ 1000000) {x : V} {k : Rx.Kd} (h : Rx.Is H x k) : ∃ k', Rx.Is H' x k' ∧ k'.isNum = k.isNum ∧ k'.isTup = k.isTup := by
  cases h with
  | non => exact ⟨_, .non, rfl, rfl⟩
  | bl b => exact ⟨_, .bl b, rfl, rfl⟩
  | int i => exact ⟨_, .int i, rfl, rfl⟩
  | str q => exact ⟨_, .str q, rfl, rfl⟩
  | @lst a xs h q =>
    by_cases c : a = l
    · subst c
      exact ⟨_, .lst hl' lb, rfl, rfl⟩
    · exact ⟨_, .lst (s _ _ c h) q, rfl, rfl⟩
  | tup h q => exact ⟨_, .tup (s _ _ (ne_of h hl fun e => nomatch e) h) q, rfl, rfl⟩
  | dct h => exact ⟨_, .dct (s _ _ (ne_of h hl fun e => nomatch e) h), rfl, rfl⟩
theorem CutOf.keep {H H' : Hp} {l : Addr} {as bs : List V} (s : ∀ b o, b ≠ l → H b = some o → H' b = some o) (hl : H l = some (.lst as)) (hl' : H' l = some (.lst bs)) (lb : bs.length ≤ 1000000) {x : V} {o : Option (List Int)} (h : CutOf K H x o) : CutOf K H' x o := by
  cases h with
  | odd h k =>
    obtain ⟨k', h', e1, e2⟩ := is_keep s hl hl' lb h
    exact .odd h' (e2.trans k)
  | own g c o m => exact .own (s _ _ (ne_of g hl fun e => nomatch e) g) c o m
  | mix g q ks hy hk n =>
    obtain ⟨k', h', e1, e2⟩ := is_keep s hl hl' lb hk
    exact .mix (s _ _ (ne_of g hl fun e => nomatch e) g) q (fun y m => let ⟨k, h⟩ := ks y m; let ⟨k2, h2, _⟩ := is_keep s hl hl' lb h; ⟨k2, h2⟩) hy h' (e1.trans n)
  | nums g q => exact .nums (s _ _ (ne_of g hl fun e => nomatch e) g) q
theorem Cell.keep {H H' : Hp} {l : Addr} {as bs : List V} (s : ∀ b o, b ≠ l → H b = some o → H' b = some o) (hl : H l = some (.lst as)) (hl' : H' l = some (.lst bs)) (lb : bs.length ≤ 1000000) {x : V} (h : Cell K H x) : Cell K H' x := let ⟨o, h⟩ := h; ⟨o, h.keep s hl hl' lb⟩
theorem Cell.but {H H' : Hp} {t c : Addr} (tp : Tape H t c) (tp' : Tape H' t c) (s : Rd.But t H H') {x : V} (h : Cell K H x) : Cell K H' x := by
  obtain ⟨_, _, _, _, _, _, g, _⟩ := tp
  obtain ⟨_, _, _, _, _, _, g', _⟩ := tp'
  exact h.keep (fun b o n e => s b o n e) g g' (Nat.le_of_ble_eq_true rfl)
theorem cut_from8 {xs : List V} {i : Int} (h0 : 0 ≤ i) (h1 : i ≤ xs.length + 1) : cutV xs (some i) none = xs.drop i.toNat := by
  unfold cutV
  have e1 : HT.sIx xs.length 0 (some i) = min i.toNat xs.length := by
    show (if i < 0 then _ else min i.toNat xs.length) = _
    rw [if_neg (by omega)]
  have e2 : HT.sIx xs.length xs.length none = xs.length := rfl
  rw [e1, e2, List.take_of_length_le (by rw [List.length_drop]; omega)]
  rcases Nat.le_total i.toNat xs.length with c | c
  · rw [Nat.min_eq_left c]
  · rw [Nat.min_eq_right c, List.drop_eq_nil_of_le (Nat.le_refl _), List.drop_eq_nil_of_le c]
theorem cutV_mem8 {xs : List V} {lo hi : Option Int} {x : V} (m : x ∈ cutV xs lo hi) : x ∈ xs := List.mem_of_mem_drop (List.mem_of_mem_take m)
theorem cell_numsT {H : Hp} {q : Addr} {P : List Int} (h : H q = some (.tup (P.map V.int))) (l : P.length ≤ 1000) : Cell K H (.ref q) := ⟨_, .nums h l⟩
theorem cell_mix8 {H : Hp} {q : Addr} {xs : List V} {y : V} {k : Rx.Kd} (g : H q = some (.tup xs)) (l : xs.length ≤ 1000) (ks : ∀ y ∈ xs, ∃ k, Rx.Is H y k) (m : y ∈ xs) (hk : Rx.Is H y k) (n : k.isNum = false) : Cell K H (.ref q) := by
  obtain ⟨i, hi, e⟩ := List.getElem_of_mem m
  exact ⟨_, .mix g l ks (List.getElem?_eq_some_iff.mpr ⟨hi, e⟩) hk n⟩
def one8 (v : Nat) : V := if v = 1 then .bl true else .int (v : Nat)
theorem cell_one8 {H : Hp} {q : Addr} {N : List Nat} (g : H q = some (.tup (N.map one8))) (l : N.length ≤ 1000) : Cell K H (.ref q) := by
  by_cases c : 1 ∈ N
  · refine cell_mix8 (y := .bl true) g (by rw [List.length_map]; exact l) (fun y m => ?_) (List.mem_map.mpr ⟨1, c, rfl⟩) (.bl true) rfl
    obtain ⟨v, _, rfl⟩ := List.mem_map.mp m
    unfold one8
    by_cases e : v = 1
    · rw [if_pos e]; exact ⟨_, .bl _⟩
    · rw [if_neg e]; exact ⟨_, .int _⟩
  · refine cell_numsT (P := N.map fun i : Nat => (i : Int)) ?_ (by rw [List.length_map]; exact l)
    rw [g, List.map_map]
    congr 2
    refine List.map_congr_left fun v m => ?_
    unfold one8
    rw [if_neg fun e => c (by rw [← e]; exact m)]
    rfl

end
end W

namespace W
open PySem PySem.Spec PyProof.Rows L2
section
variable {P : Program} {w : World} {K : PySem.W.Frag} {mg : Str → Option Value} {base : Heap}
/-! ### small data, shown -/
structure Sm (m b : Nat) (d : PyData) : Prop where
  sh : d.showable = true
  nd : d.hasDict = false
  dd : d.depth ≤ m
  ls : d.leavesShort 13 = true
  bk : d.bulk ≤ b
structure SmAll (m b : Nat) (ds : List PyData) : Prop where
  sh : PyData.showableAll ds = true
  nd : PyData.hasDictAll ds = false
  dd : PyData.depthAll ds ≤ m
  ls : PyData.leavesShortAll 13 ds = true
  bk : PyData.bulkAll ds ≤ b
theorem SmAll.nil (m b : Nat) : SmAll m b [] := ⟨rfl, rfl, Nat.zero_le _, rfl, Nat.zero_le _⟩
theorem SmAll.cons {m b b' : Nat} {d : PyData} {ds : List PyData} (h : Sm m b d) (t : SmAll m b' ds) : SmAll m (b + 1 + b') (d :: ds) :=
  ⟨by show (d.showable && PyData.showableAll ds) = true; rw [h.sh, t.sh]; rfl, by show (d.hasDict || PyData.hasDictAll ds) = false; rw [h.nd, t.nd]; rfl, Nat.max_le.mpr ⟨h.dd, t.dd⟩, by show (PyData.leavesShort 13 d && PyData.leavesShortAll 13 ds) = true; rw [h.ls, t.ls]; rfl, by show d.bulk + 1 + PyData.bulkAll ds ≤ _; have := h.bk; have := t.bk; omega⟩
theorem SmAll.up {m b m' b' : Nat} {ds : List PyData} (h : SmAll m b ds) (l : m ≤ m') (k : b ≤ b') : SmAll m' b' ds := ⟨h.sh, h.nd, Nat.le_trans h.dd l, h.ls, Nat.le_trans h.bk k⟩
theorem Sm.up {m b m' b' : Nat} {d : PyData} (h : Sm m b d) (l : m ≤ m') (k : b ≤ b') : Sm m' b' d := ⟨h.sh, h.nd, Nat.le_trans h.dd l, h.ls, Nat.le_trans h.bk k⟩
theorem SmAll.tup {m b : Nat} {ds : List PyData} (h : SmAll m b ds) : Sm (m + 1) b (.tuple ds) := ⟨h.sh, h.nd, Nat.succ_le_succ h.dd, h.ls, h.bk⟩
theorem SmAll.lst {m b : Nat} {ds : List PyData} (h : SmAll m b ds) : Sm (m + 1) b (.list ds) := ⟨h.sh, h.nd, Nat.succ_le_succ h.dd, h.ls, h.bk⟩
theorem smAll_of {m b : Nat} : ∀ {ds : List PyData}, (∀ d ∈ ds, Sm m b d) → SmAll m ((b + 1) * ds.length) ds
  | [], _ => .nil _ _
  | d :: ds, h => (SmAll.cons (h d (List.mem_cons_self ..)) (smAll_of fun x m => h x (List.mem_cons_of_mem _ m))).up (Nat.le_refl _) (by rw [List.length_cons, Nat.mul_succ]; omega)
theorem sm_non : Sm 0 0 .none := ⟨rfl, rfl, Nat.le_refl _, rfl, Nat.le_refl _⟩
theorem sm_let {n : Nat} {z : Str} (h : Lt.Let z) (l : z.length ≤ n) : Sm 0 n (.str z) := ⟨rfl, rfl, Nat.le_refl _, by
  show (z.cps.toList.all fun c => decide (c < 16 ^ 8)) = true
  rw [List.all_eq_true]
  intro c hc
  have hl := h c hc
  have : ∀ c ∈ Lt.Abc.cps.toList, decide (c < 16 ^ 8) = true := by decide +kernel
  exact this c hl, l⟩
theorem reprR {H : Hp} {a : Addr} {d : PyData} {Q : VK} (dp : Dp K H (.ref a) d) (s : Sm 50 (2 ^ 20) d) (q : Q (.str d.shown) H) : Rg.rRepr K [.ref a] H Q :=
  ⟨a, d, rfl, dp, s.sh, s.nd, Nat.le_trans s.dd (by decide), PyData.shown_fits_bulk (by decide) (by decide) s.ls s.bk, q⟩

end
end W

namespace W
open PySem PySem.Spec PyProof.Rows L2
section
variable {P : Program} {w : World} {K : PySem.W.Frag} {mg : Str → Option Value} {base : Heap}
/-! ### the flood of spots -/
def sp_l_flood (K : PySem.W.Frag) : Sp := fun vs H Q _ => ∃ (a : Addr) (ws : List Str) (z : Str) (s : Nat), vs = [.ref a, .str z, .int (s : Nat)] ∧ SqL K H a (ws.map V.str) ∧ (∀ W ∈ ws, 1 ≤ W.length) ∧ z.length ≤ 40 ∧ s ≤ z.length ∧
  ∀ (r : Addr) H', Same H H' → H r = none → H' r = some (.lst (natV (Mc.cls (Mw.Adj ws z) z.length s))) → Q (.ref r) H'
theorem ok_l_flood (T : Txt K mg) : FnOk P w K mg base CX0 2 T.f_l_flood T.fd_l_flood ["_law_watches_here", "_law_word_here", "_law_start"] (sp_l_flood K) := by
  refine T.F_l_flood.ok sc_l_flood (fun vs H Q E h => ?_) (fun cdv A outer s H vs Q E hr h => ?_)
  · obtain ⟨a, ws, z, s, rfl, _⟩ := h
    rfl
  · obtain ⟨a, ws, z, s, rfl, hS, w1, z1, sn, k⟩ := h
    refine ⟨_, (pss_cons (ps_set (i := 3) sc_l_flood.nd rfl (.inl rfl) (pe_lst (pa_cons (pv 2) pa_nil)))
  (pss_cons (ps_for PassesOwn.never rfl (pi_range1 rfl T.n_range (pa_cons (pe_op op_add (pe_callB (id := "len") (r := _) Rd.c_lenS (by rfl) T.n_len (by decide +kernel) (pa_cons (pv 1) pa_nil)) pe_int) pa_nil)) (pg_name (i := 4) sc_l_flood.nd rfl (.inl rfl))
  (pss_one (ps_if (pt_cmpR op_lt (pv 4) (pe_callB (id := "len") (r := Rd.nLen K) Rd.c_len (by rfl) T.n_len (by decide +kernel) (pa_cons (pv 3) pa_nil)) (nomark _))
  (pss_one (ps_for PassesOwn.never rfl (pi_list (pe_call (ok_l_near T) (hr.mono (by decide)) rfl T.g_l_near T.F_l_near.kp T.b_l_near .nil pass0 (pa_cons (pv 0) (pa_cons (pv 1) (pa_cons (pe_ix (r := rIxL K) ix_list (pv 3) (pv 4) (fun _ _ => rfl)) pa_nil))))) (pg_name (i := 5) sc_l_flood.nd rfl (.inl rfl))
  (pss_one (ps_if (pt_cmpR (r := rIn K true) op_notIn_seq (pv 5) (pv 3) (by rfl))
  (pss_one (ps_expr (pe_bm PySem.F.plainAttrs_list PySem.F.slot_list_append PySem.F.type_list_append mt_append (pv 3) (pa_cons (pv 5) pa_nil))))
  pss_nil))))
  pss_nil)))
  (pss_one (ps_ret (pe_callB (id := "sorted") (r := rSortedI K) cr_sortedI (by rfl) T.n_sorted (by decide +kernel) (pa_cons (pv 3) pa_nil)))))), ?_⟩
    have zl : z.length ≤ sizeLine := by rw [sizeLine_eq]; omega
    have le : ∀ i j, Mw.Adj ws z i j → j ≤ z.length := fun i j h => h.le.2
    walk_at "rd"
    refine ⟨Nat.le_of_ble_eq_true rfl, Rd.new fun f G nf gf s1 => ?_⟩
    walk_at "rd"
    refine Rd.forS ?_
    walk_at "rd"
    refine Rd.lenStr zl ?_
    walk_at "rd"
    refine ⟨by omega, by omega, ?_⟩
    refine for_range (lo := 0) (n := ((z.length : Int) + 1).toNat) (fun i σ H' => ∃ (gs : List Int) (o4 o5 : Option V), σ = [some (.ref a), some (.str z), some (.int (s : Nat)), some (.ref f), o4, o5] ∧ Same H H' ∧ H' f = some (.lst (gs.map V.int)) ∧ gs.Nodup ∧ (s : Int) ∈ gs ∧ (∀ x ∈ gs, ∃ j : Nat, x = j ∧ j ≤ z.length ∧ Mw.Star (Mw.Adj ws z) s j) ∧
        ∀ (k u v : Nat), k < i → gs[k]? = some (u : Int) → Mw.Adj ws z u v → (v : Int) ∈ gs)
      ⟨[(s : Int)], none, none, rfl, s1, gf, by simp, by simp, fun x hx => ⟨s, by simpa using hx, sn, .refl⟩, fun k u v h => by omega⟩ ?_ ?_
    · rintro i _ H1 hi ⟨gs, o4, o5, rfl, s2, g2, nd, h0, hg, cl⟩
      have gl : gs.length ≤ z.length + 1 := Mw.nodup_range nd fun x hx => by obtain ⟨j, e, l, _⟩ := hg x hx; omega
      walk_at "rd"
      rw [Int.zero_add]
      refine Rd.len (.inl (.of g2)) ?_
      rw [List.length_map]
      walk_at "rd"
      refine ite2 (fun c => ?_) (fun c => ?_)
      · have il : i < gs.length := by omega
        obtain ⟨u, eu, ul, us⟩ := hg _ (List.getElem_mem il)
        walk_at "rd"
        refine Rd.forS ?_
        walk_at "rd"
        refine Rd.ixL (v := .int (u : Nat)) (.of g2) (by rw [← eu]; exact atI_nat (Rd.map_int il)) ?_
        walk_at "rd"
        refine ⟨a, ws, z, u, rfl, s2.seq hS, w1, by omega, ul, fun l xs H3 s3 nl g3 hx xl _ => ?_⟩
        walk_at "rd"
        refine ⟨⟨_, .of g3⟩, for_list (K := K) (a := l) (xs := xs.map V.int) (fun t σ H' => ∃ (gs' : List Int) (o5 : Option V), σ = [some (.ref a), some (.str z), some (.int (s : Nat)), some (.ref f), some (.int (i : Nat)), o5] ∧ Same H H' ∧ H' l = some (.lst (xs.map V.int)) ∧ H' f = some (.lst (gs'.map V.int)) ∧ gs'.Nodup ∧ (∃ ex, gs' = gs ++ ex) ∧ (∀ x ∈ gs', ∃ j : Nat, x = j ∧ j ≤ z.length ∧ Mw.Star (Mw.Adj ws z) s j) ∧ ∀ x ∈ xs.take t, x ∈ gs')
          ⟨gs, _, rfl, s2.trans s3, g3, s3 _ _ g2, nd, ⟨[], by simp⟩, hg, fun x h => by simp at h⟩ (fun t σ H' _ ⟨_, _, _, _, g, _⟩ => .of g) ?_ ?_⟩
        · rintro t y0 _ H4 hy0 ⟨gs', o5, rfl, s4, l4, g4, nd4, ⟨ex, he⟩, hg4, ht⟩
          obtain ⟨y, hy, rfl⟩ := Rd.map_get hy0
          obtain ⟨j, ej, aj⟩ := (hx y).mp (List.mem_of_getElem? hy)
          have gl4 : gs'.length ≤ z.length + 1 := Mw.nodup_range nd4 fun x hx => by obtain ⟨j, e, l, _⟩ := hg4 x hx; omega
          have lf : l ≠ f := (ne_of_none g2 nl).symm
          walk_at "rd"
          refine Rd.inIntsN (.inl (.of g4)) ?_
          walk_at "rd"
          refine ite2 (fun c2 => ?_) (fun c2 => ?_)
          · walk_at "rd"
            refine ⟨gs', _, rfl, s4, l4, g4, nd4, ⟨ex, he⟩, hg4, fun x hx => ?_⟩
            rw [Rd.take_snoc hy] at hx
            rcases List.mem_append.mp hx with h | h
            · exact ht x h
            · rw [List.mem_singleton.mp h]
              exact c2
          · walk_at "rd"
            refine Rd.tyL (.of g4) ?_
            walk_at "rd"
            refine Rd.app g4 (by rw [List.length_map, sizeLine_eq]; omega) fun G5 g5 off5 => ?_
            walk_at "rd"
            refine ⟨gs' ++ [y], _, rfl, fun b o e => ?_, by rw [off5 l lf]; exact l4, by rw [List.map_append]; exact g5, ?_, ⟨ex ++ [y], by rw [he, List.append_assoc]⟩, fun x hx => ?_, fun x hx => ?_⟩
            · rw [off5 b (ne_of_none e nf)]
              exact s4 b o e
            · rw [List.nodup_append]
              exact ⟨nd4, by simp, fun x hx w hw e => c2 (by simp at hw; rw [← hw, ← e]; exact hx)⟩
            · rcases List.mem_append.mp hx with h | h
              · exact hg4 x h
              · exact ⟨j, by rw [List.mem_singleton.mp h, ej], le _ _ aj, .step us aj⟩
            · rw [Rd.take_snoc hy] at hx
              rcases List.mem_append.mp hx with h | h
              · exact List.mem_append.mpr (.inl (ht x h))
              · exact List.mem_append.mpr (.inr h)
        · rintro _ H4 ⟨gs', o5, rfl, s4, l4, g4, nd4, ⟨ex, he⟩, hg4, ht⟩
          rw [List.length_map, List.take_length] at ht
          walk_at "rd"
          refine ⟨gs', _, _, rfl, s4, g4, nd4, by rw [he]; exact List.mem_append_left _ h0, hg4, fun k' u' v hk e av => ?_⟩
          have kl : k' < gs.length := by omega
          have e' : gs[k']? = some (u' : Int) := by
            rw [he, List.getElem?_append_left kl] at e
            exact e
          rcases Nat.lt_succ_iff_lt_or_eq.mp hk with l | l
          · rw [he]
            exact List.mem_append_left _ (cl k' u' v l e' av)
          · subst l
            rw [List.getElem?_eq_getElem il] at e'
            have : u' = u := by
              have := Option.some.inj e'
              omega
            subst this
            exact ht _ ((hx _).mpr ⟨v, rfl, av⟩)
      · walk_at "rd"
        refine ⟨gs, _, _, rfl, s2, g2, nd, h0, hg, fun k' u v hk e av => cl k' u v ?_ e av⟩
        have := (List.getElem?_eq_some_iff.mp e).1
        omega
    · rintro _ H1 ⟨gs, o4, o5, rfl, s2, g2, nd, h0, hg, cl⟩
      have gl : gs.length ≤ z.length + 1 := Mw.nodup_range nd fun x hx => by obtain ⟨j, e, l, _⟩ := hg x hx; omega
      walk_at "rd"
      refine Rd.sortedI (.of g2) fun ms p H3 pm ps gp s3 np => ?_
      refine k p H3 (s2.trans s3) (s2.free np) ?_
      have e : ms = (Mc.cls (Mw.Adj ws z) z.length s).map fun i : Nat => (i : Int) := Mc.int_ext (sorted_lt ps (pm.nodup_iff.mpr nd)) (Mc.cls_lt _ s) fun x => by
        rw [pm.mem_iff]
        constructor
        · intro h
          obtain ⟨j, rfl, jl, st⟩ := hg x h
          exact mem_nat.mpr (Mc.mem_cls.mpr ⟨jl, st⟩)
        · intro h
          obtain ⟨j, hj, rfl⟩ := List.mem_map.mp h
          have st := (Mc.mem_cls.mp hj).2
          clear hj h
          induction st with
          | refl => exact h0
          | step _ av ih =>
            obtain ⟨k', hk, e2⟩ := List.getElem_of_mem (ih)
            exact cl k' _ _ (by omega) (by rw [List.getElem?_eq_getElem hk, e2]) av
      rw [gp, e]
      rfl

end
end W

namespace W
open PySem PySem.Spec PyProof.Rows L2
section
variable {P : Program} {w : World} {K : PySem.W.Frag} {mg : Str → Option Value} {base : Heap}
/-! ### the law's own judges of anything -/
theorem cut_toI {xs : List V} {m : Int} (h : 0 ≤ m) : cutV xs none (some m) = xs.take m.toNat := by
  have e : HT.sIx xs.length xs.length (some m) = min m.toNat xs.length := by
    have := HT.sIx_nat xs.length xs.length m.toNat
    rw [show ((m.toNat : Nat) : Int) = m by omega] at this
    exact this
  have e0 : HT.sIx xs.length 0 none = 0 := rfl
  unfold cutV
  rw [e, e0, List.drop_zero, Nat.sub_zero]
  rcases Nat.le_total m.toNat xs.length with l | l
  · rw [Nat.min_eq_left l]
  · rw [Nat.min_eq_right l, List.take_length, List.take_of_length_le l]
theorem bneD {p q : Prop} [Decidable p] [Decidable q] (h : ¬ (p ↔ q)) : (decide p != decide q) = true := by
  by_cases hp : p <;> by_cases hq : q <;> simp_all
theorem zig_mem {ws : List Str} {z : Str} {P : List Int} (h : ZigI (Mw.Adj ws z) z.length P) : ∀ x ∈ P, 0 ≤ x ∧ x ≤ (z.length : Int) := by
  obtain ⟨N, rfl, c⟩ := h
  intro x m
  obtain ⟨y, my, rfl⟩ := List.mem_map.mp m
  have := c.le (fun i j a => a.le) (Nat.zero_le _) y my
  omega
theorem nodup_of_take : ∀ {P : List Int}, (∀ (j : Nat) (v : Int), P[j]? = some v → v ∉ P.take j) → P.Nodup := by
  intro P
  induction P with
  | nil => exact fun _ => .nil
  | cons a r ih =>
    intro h
    refine List.nodup_cons.mpr ⟨fun m => ?_, ih fun j v e m => h (j + 1) v (by simpa using e) (by rw [List.take_succ_cons]; exact List.mem_cons_of_mem _ m)⟩
    obtain ⟨i, hi, e⟩ := List.getElem_of_mem m
    exact h (i + 1) a (by rw [List.getElem?_cons_succ]; exact List.getElem?_eq_some_iff.mpr ⟨hi, e⟩) (by rw [List.take_succ_cons]; exact List.mem_cons_self ..)
def sp_l_is_zigzag (K : PySem.W.Frag) : Sp := fun vs H Q _ => ∃ (a : Addr) (x : V) (ws : List Str) (z : Str) (o : Option (List Int)), vs = [.ref a, .str z, x] ∧ SqL K H a (ws.map V.str) ∧ (∀ W ∈ ws, 1 ≤ W.length) ∧ z.length ≤ 40 ∧ 1 ≤ z.length ∧ CutOf K H x o ∧ ∀ H', Same H H' → Q (.bl (zigB ws z o)) H'
def sp_l_is_cut (K : PySem.W.Frag) : Sp := fun vs H Q _ => ∃ (a : Addr) (x : V) (ws : List Str) (z : Str) (o : Option (List Int)), vs = [.ref a, .str z, x] ∧ SqL K H a (ws.map V.str) ∧ (∀ W ∈ ws, 1 ≤ W.length) ∧ z.length ≤ 40 ∧ CutOf K H x o ∧ ∀ H', Same H H' → Q (.bl (cutB ws z o)) H'
/-- as far as the law's judge came -/
structure SoUp (P : List Int) (n : Nat) (i : Nat) (l : Int) : Prop where
  z : i = 0 → l = -1
  s : ∀ j a, j + 1 = i → P[j]? = some a → l = a
  up : ∀ j a b, j + 1 < i → P[j]? = some a → P[j + 1]? = some b → a < b
  tp : ∀ j a, j < i → P[j]? = some a → a < n
  fst : ∀ a, 0 < i → P[0]? = some a → -1 < a
theorem SoUp.next {P : List Int} {n i : Nat} {l v : Int} (h : SoUp P n i l) (e : P[i]? = some v) (h1 : l < v) (h2 : v < n) : SoUp P n (i + 1) v where
  z q := by omega
  s j a q ha := by
    have : j = i := by omega
    subst this
    rw [e] at ha
    exact Option.some.inj ha
  up j a b q ha hb := by
    by_cases c : j + 1 < i
    · exact h.up j a b c ha hb
    · have : j + 1 = i := by omega
      subst this
      rw [e] at hb
      cases hb
      have := h.s j a rfl ha
      omega
  tp j a q ha := by
    by_cases c : j < i
    · exact h.tp j a c ha
    · have : j = i := by omega
      subst this
      rw [e] at ha
      cases ha
      exact h2
  fst a _ ha := by
    by_cases c : 0 < i
    · exact h.fst a c ha
    · have : i = 0 := by omega
      subst this
      rw [e] at ha
      cases ha
      have := h.z rfl
      omega
theorem SoUp.low {A : Nat → Nat → Prop} {P : List Int} {n i : Nat} {l v : Int} (h : SoUp P n i l) (e : P[i]? = some v) (h1 : ¬ l < v) : ¬ CutI A n P := fun c => by
  cases i with
  | zero =>
    have := h.z rfl
    have := (cutI_top c v (List.mem_of_getElem? e)).1
    omega
  | succ i =>
    obtain ⟨a, ha⟩ : ∃ a, P[i]? = some a := ⟨_, List.getElem?_eq_getElem (by have := (List.getElem?_eq_some_iff.mp e).1; omega)⟩
    have := h.s i a rfl ha
    have := steps_of_asc (cutI_asc c) ha e
    omega
theorem ok_l_is_zigzag (T : Txt K mg) : FnOk P w K mg base CX0 2 T.f_l_is_zigzag T.fd_l_is_zigzag ["_law_watches_here", "_law_word_here", "_law_thing"] (sp_l_is_zigzag K) := by
  refine T.F_l_is_zigzag.ok sc_l_is_zigzag (fun vs H Q E h => ?_) (fun cdv A outer s H vs Q E hr h => ?_)
  · obtain ⟨a, x, ws, z, o, rfl, _⟩ := h
    rfl
  · obtain ⟨a, x, ws, z, o, rfl, hS, w1, z1, z0, hx, k⟩ := h
    refine ⟨_, (pss_cons (ps_if (PW.pt (pw_or (pt_not (pt_val (pe_callB (id := "isinstance") (r := rIsi K) call_isi (by rfl) T.n_isinstance (by decide +kernel) (pa_cons (pv 2) (pa_cons (pe_bltn (v := .ty "tuple") (u := .type "tuple") (by rfl) T.n_tuple (by decide +kernel) rfl) pa_nil))))) (pw_or1 (pt_cmpR op_lt (pe_callB (id := "len") (r := Rd.nLen K) Rd.c_len (by rfl) T.n_len (by decide +kernel) (pa_cons (pv 2) pa_nil)) pe_int (nomark _)))))
  (pss_one (ps_ret pe_bl))
  pss_nil)
  (pss_cons (ps_for PassesOwn.never rfl (pi_tup (pv 2)) (pg_name (i := 3) sc_l_is_zigzag.nd rfl (.inl rfl))
  (pss_one (ps_if (PW.pt (pw_or (pt_not (pt_val (pe_callB (id := "isinstance") (r := rIsi K) call_isi (by rfl) T.n_isinstance (by decide +kernel) (pa_cons (pv 3) (pa_cons (pe_bltn (v := .ty "int") (u := .type "int") (by rfl) T.n_int (by decide +kernel) rfl) pa_nil))))) (pw_or (pt_val (pe_callB (id := "isinstance") (r := rIsi K) call_isi (by rfl) T.n_isinstance (by decide +kernel) (pa_cons (pv 3) (pa_cons (pe_bltn (v := .ty "bool") (u := .type "bool") (by rfl) T.n_bool (by decide +kernel) rfl) pa_nil)))) (pw_or1 (pt_not (pt_chain op_le op_le pe_int (pv 3) (pe_callB (id := "len") (r := _) Rd.c_lenS (by rfl) T.n_len (by decide +kernel) (pa_cons (pv 1) pa_nil))))))))
  (pss_one (ps_ret pe_bl))
  pss_nil)))
  (pss_cons (ps_if (PW.pt (pw_or (pt_cmpR op_ne (pe_ix (r := rIxT K) ix_tup (pv 2) pe_int (fun _ _ => rfl)) pe_int (nomark _)) (pw_or (pt_cmpR op_ne (pe_ix (r := rIxT K) ix_tup (pv 2) (pe_un un_neg pe_int) (fun _ _ => rfl)) (pe_callB (id := "len") (r := _) Rd.c_lenS (by rfl) T.n_len (by decide +kernel) (pa_cons (pv 1) pa_nil)) (nomark _)) (pw_or1 (pt_cmpR op_gt (pe_callB (id := "len") (r := Rd.nLen K) Rd.c_len (by rfl) T.n_len (by decide +kernel) (pa_cons (pe_lc (own := [("_law_k", 4)]) (g := gName 4)  rfl sc_l_is_zigzag.nd (pi_range1 rfl T.n_range (pa_cons (pe_callB (id := "len") (r := Rd.nLen K) Rd.c_len (by rfl) T.n_len (by decide +kernel) (pa_cons (pv 2) pa_nil)) pa_nil)) (blkOk_by (own := [("_law_k", 4)]) (N := ["_law_watches_here", "_law_word_here", "_law_thing", "_law_spot", "_law_k"]) (sc := defScope s_l_is_zigzag) (by decide +kernel)) (fun _ _ _ _ _ => (pg_name (i := 4) sc_l_is_zigzag.nd rfl (.inl rfl))) (fun _ _ _ _ _ => pts_one (pt_cmpR (r := rIn K false) op_in_seq (pe_ix (r := rIxT K) ix_tup (pv 2) (pv 4) (fun _ _ => rfl)) (pe_slice (r := rSlA K) sl_tupA (pv 2) po_none (po_some (pv 4))) (by rfl))) (fun _ _ _ _ _ => (pv 4))) pa_nil)) pe_int (nomark _))))))
  (pss_one (ps_ret pe_bl))
  pss_nil)
  (pss_one (ps_ret (pe_cmpR op_eq (pe_callB (id := "len") (r := Rd.nLen K) Rd.c_len (by rfl) T.n_len (by decide +kernel) (pa_cons (pe_lc (own := [("_law_k", 4)]) (g := gName 4)  rfl sc_l_is_zigzag.nd (pi_range1 rfl T.n_range (pa_cons (pe_op op_sub (pe_callB (id := "len") (r := Rd.nLen K) Rd.c_len (by rfl) T.n_len (by decide +kernel) (pa_cons (pv 2) pa_nil)) pe_int) pa_nil)) (blkOk_by (own := [("_law_k", 4)]) (N := ["_law_watches_here", "_law_word_here", "_law_thing", "_law_spot", "_law_k"]) (sc := defScope s_l_is_zigzag) (by decide +kernel)) (fun _ _ _ _ _ => (pg_name (i := 4) sc_l_is_zigzag.nd rfl (.inl rfl))) (fun _ _ _ _ _ => pts_one (pt_cmpR (r := rIn K true) op_notIn_seq (pe_ix (r := rIxT K) ix_tup (pv 2) (pe_op op_add (pv 4) pe_int) (fun _ _ => rfl)) (pe_call (ok_l_near T) (hr.mono (by decide)) rfl T.g_l_near T.F_l_near.kp T.b_l_near .nil pass0 (pa_cons (pv 0) (pa_cons (pv 1) (pa_cons (pe_ix (r := rIxT K) ix_tup (pv 2) (pv 4) (fun _ _ => rfl)) pa_nil)))) (by rfl))) (fun _ _ _ _ _ => (pv 4))) pa_nil)) pe_int (nomark _))))))), ?_⟩
    have zl : z.length ≤ sizeLine := by rw [sizeLine_eq]; omega
    cases hx with
    | odd h s =>
      rw [zigB_none] at k
      walk_at "rd"
      refine Rx.askTup h ?_
      rw [s]
      walk_at "rd"
      exact k _ (Same.refl _)
    | own g c o m =>
      rw [zigB_none] at k
      walk_at "rd"
      refine ask_own g c o m ?_
      walk_at "rd"
      exact k _ (Same.refl _)
    | @mix q xs j y kd g l ks hy hk n =>
      rw [zigB_none] at k
      have jl := (List.getElem?_eq_some_iff.mp hy).1
      walk_at "rd"
      refine Rd.isi (Ru.ty_T (.of g)) (by decide +kernel : kitB "tuple" "tuple" = some true) ?_
      walk_at "rd"
      refine Rd.len (.inr (.of g)) ?_
      walk_at "rd"
      by_cases x2 : xs.length < 2
      · refine Rd.yes (by omega) ?_
        walk_at "rd"
        exact k _ (Same.refl _)
      refine Rd.no (by omega) ?_
      walk_at "rd"
      refine Rd.forS ?_
      walk_at "rd"
      refine ⟨⟨_, .of g⟩, for_tup (K := K) (a := q) (xs := xs) (fun i σ H' => ∃ (o3 : Option V), σ = [some (.ref a), some (.str z), some (.ref q), o3, none] ∧ H' = H ∧ i ≤ j)
        ⟨none, rfl, rfl, Nat.zero_le _⟩ (fun i σ H' _ ⟨_, _, e, _⟩ => e ▸ .of g) ?_ ?_⟩
      · rintro i x0 _ H9 hx ⟨o3, rfl, e0, ij⟩
        obtain rfl := e0.symm
        obtain ⟨kx, hkx⟩ := ks x0 (List.mem_of_getElem? hx)
        have hk2 := hkx
        walk_at "rd"
        refine Rx.askInt hkx ?_
        walk_at "rd"
        cases hkx with
        | bl b =>
          refine Rd.yes rfl ?_
          walk_at "rd"
          refine Rx.askBl hk2 ?_
          walk_at "rd"
          refine Rd.yes rfl ?_
          walk_at "rd"
          exact k _ (Same.refl _)
        | int v =>
          refine Rd.yes rfl ?_
          walk_at "rd"
          refine Rx.askBl hk2 ?_
          walk_at "rd"
          refine Rd.no Bool.false_ne_true ?_
          walk_at "rd"
          by_cases c1 : 0 ≤ v
          rotate_left
          · refine Rd.no c1 ?_
            walk_at "rd"
            exact k _ (Same.refl _)
          refine Rd.yes c1 ?_
          walk_at "rd"
          refine Rd.lenStr zl ?_
          walk_at "rd"
          by_cases c2 : v ≤ (z.length : Int)
          rotate_left
          · refine Rd.no c2 ?_
            walk_at "rd"
            exact k _ (Same.refl _)
          refine Rd.yes c2 ?_
          walk_at "rd"
          refine ⟨_, rfl, rfl, ?_⟩
          rcases Nat.lt_or_eq_of_le ij with c | c
          · exact c
          · subst c
            rw [hx] at hy
            cases hy
            have : kd = .int v := hk.inj (.int v)
            rw [this] at n
            cases n
        | _ =>
          refine Rd.no Bool.false_ne_true ?_
          walk_at "rd"
          exact k _ (Same.refl _)
      · rintro _ H9 ⟨o3, rfl, e0, ij⟩
        omega
    | @nums q P hq p1000 =>
      walk_at "rd"
      refine Rd.isi (Ru.ty_T (.of hq)) (by decide +kernel : kitB "tuple" "tuple" = some true) ?_
      walk_at "rd"
      refine Rd.len (.inr (.of hq)) ?_
      rw [List.length_map]
      walk_at "rd"
      by_cases x2 : P.length < 2
      · refine Rd.yes (by omega) ?_
        walk_at "rd"
        rw [zigB_no fun c => by have := zig_two c (by omega); omega] at k
        exact k _ (Same.refl _)
      refine Rd.no (by omega) ?_
      walk_at "rd"
      refine Rd.forS ?_
      walk_at "rd"
      refine ⟨⟨_, .of hq⟩, for_tup (K := K) (a := q) (xs := P.map V.int) (fun i σ H' => ∃ (o3 : Option V), σ = [some (.ref a), some (.str z), some (.ref q), o3, none] ∧ H' = H ∧ ∀ x ∈ P.take i, 0 ≤ x ∧ x ≤ (z.length : Int))
        ⟨none, rfl, rfl, fun x m => nomatch m⟩ (fun i σ H' _ ⟨_, _, e, _⟩ => e ▸ .of hq) ?_ ?_⟩
      · rintro i x0 _ H9 hx ⟨o3, rfl, e0, up⟩
        obtain rfl := e0.symm
        obtain ⟨v, ev, rfl⟩ := Rd.map_get hx
        have vm := List.mem_of_getElem? ev
        walk_at "rd"
        refine Rd.isiI ?_
        walk_at "rd"
        refine Rd.isiIB ?_
        walk_at "rd"
        by_cases c1 : 0 ≤ v
        rotate_left
        · refine Rd.no c1 ?_
          walk_at "rd"
          rw [zigB_no fun c => c1 (zig_mem c v vm).1] at k
          exact k _ (Same.refl _)
        refine Rd.yes c1 ?_
        walk_at "rd"
        refine Rd.lenStr zl ?_
        walk_at "rd"
        by_cases c2 : v ≤ (z.length : Int)
        rotate_left
        · refine Rd.no c2 ?_
          walk_at "rd"
          rw [zigB_no fun c => c2 (zig_mem c v vm).2] at k
          exact k _ (Same.refl _)
        refine Rd.yes c2 ?_
        walk_at "rd"
        refine ⟨_, rfl, rfl, fun x m => ?_⟩
        rw [Rd.take_snoc ev] at m
        rcases List.mem_append.mp m with m | m
        · exact up x m
        · rw [List.mem_singleton.mp m]; exact ⟨c1, c2⟩
      · rintro _ H9 ⟨o3, rfl, e0, up⟩
        obtain rfl := e0.symm
        rw [List.length_map, List.take_length] at up
        obtain ⟨f0, hf0⟩ : ∃ f, P[0]? = some f := ⟨_, List.getElem?_eq_getElem (by omega)⟩
        obtain ⟨m, em⟩ : ∃ m, P.getLast? = some m := by
          cases e : P.getLast? with
          | none => rw [List.getLast?_eq_none_iff] at e; rw [e] at x2; exact absurd (by decide) x2
          | some m => exact ⟨m, rfl⟩
        walk_at "rd"
        refine Rd.ixT (.of hq) (atI_nat (j := 0) (by rw [List.getElem?_map, hf0]; rfl)) ?_
        walk_at "rd"
        by_cases z0' : f0 = 0
        rotate_left
        · refine Rd.no z0' ?_
          walk_at "rd"
          rw [zigB_no fun c => by have := zig_head c; rw [hf0] at this; exact z0' (Option.some.inj this)] at k
          exact k _ (Same.refl _)
        refine Rd.yes z0' ?_
        subst z0'
        walk_at "rd"
        refine Rd.ixT (.of hq) (last_int em) ?_
        walk_at "rd"
        refine Rd.lenStr zl ?_
        walk_at "rd"
        by_cases mn : m = (z.length : Int)
        rotate_left
        · refine Rd.no mn ?_
          walk_at "rd"
          rw [zigB_no fun c => by have := zig_last c; rw [em] at this; exact mn (Option.some.inj this)] at k
          exact k _ (Same.refl _)
        refine Rd.yes mn ?_
        subst mn
        walk_at "rd"
        refine Rd.len (.inr (.of hq)) ?_
        rw [List.length_map]
        walk_at "rd"
        refine ⟨by omega, by omega, ?_⟩
        refine Rd.lcS walk_range (fun _ _ => trivial) (fun D i acc _ => acc.length ≤ i ∧ (acc.length = 0 ↔ ∀ (j : Nat) (v : Int), j < i → P[j]? = some v → v ∉ P.take j)) (fun _ _ _ _ _ => ⟨Nat.le_refl _, fun _ j v h => absurd h (Nat.not_lt_zero _), fun _ => rfl⟩) ?_ ?_
        · rintro D i x G _ acc nD hi hD sm ⟨al, ai⟩ ⟨rfl, rfl⟩
          have ip : i < P.length := by omega
          have ei := List.getElem?_eq_getElem ip
          have gq := sm _ _ hq
          walk_at "rd"
          refine ⟨rfl, ?_⟩
          walk_at "rd"
          refine Rd.ixT (.of gq) (show atI (P.map V.int) (0 + (i : Int)) = some (.int P[i]) by rw [Int.zero_add]; exact atI_nat (by rw [List.getElem?_map, ei]; rfl)) ?_
          walk_at "rd"
          refine Rz.slH gq fun q2 G2 s2 gq2 => ?_
          have ec : cutV (P.map V.int) none (some (0 + (i : Int))) = (P.take i).map V.int := by
            rw [List.map_take, Int.zero_add]
            exact cut_toI (by omega)
          rw [ec] at gq2
          walk_at "rd"
          refine Rd.inIntsY (ws := P.take i) (.inr (.of gq2)) ?_
          walk_at "rd"
          refine ite2 (fun c => ?_) (fun c => ?_)
          · walk_at "rd"
            refine Rd.lcPush (s2 _ _ hD) nD (sm.trans s2) (by rw [sizeLine_eq]; omega) fun G5 _ _ => ?_
            refine ⟨by rw [List.length_append]; exact Nat.succ_le_succ al, fun e => by rw [List.length_append, List.length_singleton] at e; omega, fun h => absurd c (h i _ (by omega) ei)⟩
          · walk_at "rd"
            refine ⟨acc, s2 _ _ hD, sm.trans s2, by omega, ai.trans ⟨fun h j v hj e => ?_, fun h j v hj e => h j v (by omega) e⟩⟩
            by_cases e2 : j < i
            · exact h j v e2 e
            · have : j = i := by omega
              subst this
              rw [ei] at e
              cases e
              exact c
        · rintro D acc G nD hD sm ⟨al, ai⟩
          rw [Int.toNat_natCast] at al ai
          have ndi : acc.length = 0 ↔ P.Nodup := ai.trans ⟨fun h => nodup_of_take fun j v e => h j v (List.getElem?_eq_some_iff.mp e).1 e, fun h j v _ e => Rd.nodup_take h e⟩
          walk_at "rd"
          refine Rd.len (.inl (.of hD)) ?_
          walk_at "rd"
          by_cases nd : P.Nodup
          rotate_left
          · refine Rd.yes (by have : 0 < acc.length := Nat.pos_of_ne_zero fun e => nd (ndi.mp e); omega) ?_
            walk_at "rd"
            rw [zigB_no fun c => nd (zig_nd c)] at k
            exact k _ sm
          refine Rd.no (by have := ndi.mpr nd; omega) ?_
          have gq := sm _ _ hq
          have gS := sm.seq hS
          clear hD nD ai al
          walk_at "rd"
          refine Rd.len (.inr (.of gq)) ?_
          rw [List.length_map]
          walk_at "rd"
          refine ⟨by omega, by omega, ?_⟩
          refine Rd.lcS walk_range (fun _ _ => trivial) (fun D i acc _ => acc.length ≤ i ∧ (acc.length = 0 ↔ ∀ (j : Nat) (v w : Int), j < i → P[j]? = some v → P[j + 1]? = some w → ∃ c d : Nat, v = (c : Int) ∧ w = (d : Int) ∧ Mw.Adj ws z c d)) (fun _ _ _ _ _ => ⟨Nat.le_refl _, fun _ j v w h => absurd h (Nat.not_lt_zero _), fun _ => rfl⟩) ?_ ?_
          · rintro D i x G1 _ acc nD hi hD sm1 ⟨al, ai⟩ ⟨rfl, rfl⟩
            have ip : i + 1 < P.length := by omega
            have ei := List.getElem?_eq_getElem (show i < P.length by omega)
            have ej := List.getElem?_eq_getElem ip
            have gq1 := sm1 _ _ gq
            obtain ⟨u0, u1⟩ := up _ (List.getElem_mem (show i < P.length by omega))
            obtain ⟨cn, ecn⟩ : ∃ cn : Nat, P[i] = (cn : Int) := ⟨P[i].toNat, by omega⟩
            walk_at "rd"
            refine ⟨rfl, ?_⟩
            walk_at "rd"
            refine Rd.ixT (.of gq1) (show atI (P.map V.int) (0 + (i : Int) + 1) = some (.int P[i + 1]) by rw [Int.zero_add]; exact atI_nat (j := i + 1) (by rw [List.getElem?_map, ej]; rfl)) ?_
            walk_at "rd"
            refine Rd.ixT (.of gq1) (show atI (P.map V.int) (0 + (i : Int)) = some (.int P[i]) by rw [Int.zero_add]; exact atI_nat (by rw [List.getElem?_map, ei]; rfl)) ?_
            walk_at "rd"
            rw [ecn]
            refine ⟨a, ws, z, cn, rfl, sm1.seq gS, w1, by omega, by omega, fun l2 xs G2 s2 _ gl2 mem _ _ => ?_⟩
            walk_at "rd"
            refine Rd.inIntsN (.inl (.of gl2)) ?_
            walk_at "rd"
            have step : P[i + 1] ∈ xs ↔ ∃ c d : Nat, P[i] = (c : Int) ∧ P[i + 1] = (d : Int) ∧ Mw.Adj ws z c d := by
              rw [mem]
              constructor
              · rintro ⟨d, e, a⟩
                exact ⟨cn, d, ecn, e, a⟩
              · rintro ⟨c, d, e1, e2, a⟩
                have : c = cn := by omega
                subst this
                exact ⟨d, e2, a⟩
            by_cases c : P[i + 1] ∈ xs
            · refine Rd.yes c ?_
              walk_at "rd"
              refine ⟨acc, s2 _ _ hD, sm1.trans s2, by omega, ai.trans ⟨fun h j v w hj e e' => ?_, fun h j v w hj => h j v w (by omega)⟩⟩
              by_cases e2 : j < i
              · exact h j v w e2 e e'
              · have : j = i := by omega
                subst this
                rw [ei] at e
                rw [ej] at e'
                cases e
                cases e'
                exact step.mp c
            · refine Rd.no c ?_
              walk_at "rd"
              refine Rd.lcPush (s2 _ _ hD) nD (sm1.trans s2) (by rw [sizeLine_eq]; omega) fun G5 _ _ => ?_
              exact ⟨by rw [List.length_append]; exact Nat.succ_le_succ al, fun e => by rw [List.length_append, List.length_singleton] at e; omega, fun h => absurd (step.mpr (h i _ _ (by omega) ei ej)) c⟩
          · rintro D acc G1 nD hD sm1 ⟨al, ai⟩
            walk_at "rd"
            refine Rd.len (.inl (.of hD)) ?_
            walk_at "rd"
            have zz : decide (((acc.length : Nat) : Int) = 0) = zigB ws z (some P) := by
              rw [Bool.eq_iff_iff, decide_eq_true_iff]
              constructor
              · intro e
                have := ai.mp (by omega)
                exact zigB_yes (zig_of hf0 em nd fun i v w e1 e2 => this i v w (by have := (List.getElem?_eq_some_iff.mp e2).1; omega) e1 e2)
              · intro h
                obtain ⟨_, e, c⟩ := zigB_iff.mp h
                cases e
                have := ai.mpr fun j v w _ e1 e2 => zig_adj c e1 e2
                omega
            rw [zz]
            exact k _ (sm.trans sm1)
theorem ok_l_is_cut (T : Txt K mg) : FnOk P w K mg base CX0 2 T.f_l_is_cut T.fd_l_is_cut ["_law_watches_here", "_law_word_here", "_law_thing"] (sp_l_is_cut K) := by
  refine T.F_l_is_cut.ok sc_l_is_cut (fun vs H Q E h => ?_) (fun cdv A outer s H vs Q E hr h => ?_)
  · obtain ⟨a, x, ws, z, o, rfl, _⟩ := h
    rfl
  · obtain ⟨a, x, ws, z, o, rfl, hS, w1, z1, hx, k⟩ := h
    refine ⟨_, (pss_cons (ps_if (pt_not (pt_val (pe_callB (id := "isinstance") (r := rIsi K) call_isi (by rfl) T.n_isinstance (by decide +kernel) (pa_cons (pv 2) (pa_cons (pe_bltn (v := .ty "tuple") (u := .type "tuple") (by rfl) T.n_tuple (by decide +kernel) rfl) pa_nil)))))
  (pss_one (ps_ret pe_bl))
  pss_nil)
  (pss_cons (ps_set (i := 3) sc_l_is_cut.nd rfl (.inl rfl) (pe_un un_neg pe_int))
  (pss_cons (ps_for PassesOwn.never rfl (pi_tup (pv 2)) (pg_name (i := 4) sc_l_is_cut.nd rfl (.inl rfl))
  (pss_cons (ps_if (PW.pt (pw_or (pt_not (pt_val (pe_callB (id := "isinstance") (r := rIsi K) call_isi (by rfl) T.n_isinstance (by decide +kernel) (pa_cons (pv 4) (pa_cons (pe_bltn (v := .ty "int") (u := .type "int") (by rfl) T.n_int (by decide +kernel) rfl) pa_nil))))) (pw_or (pt_val (pe_callB (id := "isinstance") (r := rIsi K) call_isi (by rfl) T.n_isinstance (by decide +kernel) (pa_cons (pv 4) (pa_cons (pe_bltn (v := .ty "bool") (u := .type "bool") (by rfl) T.n_bool (by decide +kernel) rfl) pa_nil)))) (pw_or1 (pt_not (pt_chain op_lt op_lt (pv 3) (pv 4) (pe_callB (id := "len") (r := _) Rd.c_lenS (by rfl) T.n_len (by decide +kernel) (pa_cons (pv 1) pa_nil))))))))
  (pss_one (ps_ret pe_bl))
  pss_nil)
  (pss_one (ps_set (i := 3) sc_l_is_cut.nd rfl (.inl rfl) (pv 4)))))
  (pss_cons (ps_if (pt_cmpR (r := rIn K true) op_notIn_seq pe_int (pv 2) (by rfl))
  (pss_one (ps_ret pe_bl))
  pss_nil)
  (pss_one (ps_ret (pe_cmpR op_eq (pe_callB (id := "len") (r := Rd.nLen K) Rd.c_len (by rfl) T.n_len (by decide +kernel) (pa_cons (pe_lc (own := [("_law_spot", 4)]) (g := gName 4)  rfl sc_l_is_cut.nd (pi_tup (pv 2)) (blkOk_by (own := [("_law_spot", 4)]) (N := ["_law_watches_here", "_law_word_here", "_law_thing", "_law_last", "_law_spot", "_law_k"]) (sc := defScope s_l_is_cut) (by decide +kernel)) (fun _ _ _ _ _ => (pg_name (i := 4) sc_l_is_cut.nd rfl (by first | exact .inl rfl | exact .inr rfl))) (fun _ _ _ _ _ => pts_one (pt_cmpR op_gt (pe_callB (id := "len") (r := Rd.nLen K) Rd.c_len (by rfl) T.n_len (by decide +kernel) (pa_cons (by exact (pe_lc (own := [("_law_k", 5)]) (g := gName 5)  rfl sc_l_is_cut.nd (Ry.pi_listK (K := K) rfl (pe_call (ok_l_near T) (hr.mono (by decide)) rfl T.g_l_near T.F_l_near.kp T.b_l_near .nil pass0 (pa_cons (pv 0) (pa_cons (pv 1) (pa_cons (pv 4) pa_nil))))) (blkOk_by (own := [("_law_k", 5)]) (N := ["_law_watches_here", "_law_word_here", "_law_thing", "_law_last", "_law_spot", "_law_k"]) (by rfl)) (fun _ _ _ _ _ => (pg_name (i := 5) sc_l_is_cut.nd rfl (by first | exact .inl rfl | exact .inr rfl))) (fun _ _ _ _ _ => pts_one (pt_cmpR (r := rIn K true) op_notIn_seq (pv 5) (pv 2) (by rfl))) (fun _ _ _ _ _ => (pv 5)))) pa_nil)) pe_int (nomark _))) (fun _ _ _ _ _ => (pv 4))) pa_nil)) pe_int (nomark _)))))))), ?_⟩
    have zl : z.length ≤ sizeLine := by rw [sizeLine_eq]; omega
    cases hx with
    | odd h s =>
      rw [cutB_none] at k
      walk_at "rd"
      refine Rx.askTup h ?_
      rw [s]
      walk_at "rd"
      exact k _ (Same.refl _)
    | own g c o m =>
      rw [cutB_none] at k
      walk_at "rd"
      refine ask_own g c o m ?_
      walk_at "rd"
      exact k _ (Same.refl _)
    | @mix q xs j y kd g l ks hy hk n =>
      rw [cutB_none] at k
      have jl := (List.getElem?_eq_some_iff.mp hy).1
      walk_at "rd"
      refine Rd.isi (Ru.ty_T (.of g)) (by decide +kernel : kitB "tuple" "tuple" = some true) ?_
      walk_at "rd"
      refine Rd.forS ?_
      walk_at "rd"
      refine ⟨⟨_, .of g⟩, for_tup (K := K) (a := q) (xs := xs) (fun i σ H' => ∃ (l : Int) (o4 : Option V), σ = [some (.ref a), some (.str z), some (.ref q), some (.int l), o4, none] ∧ H' = H ∧ i ≤ j)
        ⟨-1, none, rfl, rfl, Nat.zero_le _⟩ (fun i σ H' _ ⟨_, _, _, e, _⟩ => e ▸ .of g) ?_ ?_⟩
      · rintro i x0 _ H9 hx ⟨l, o4, rfl, e0, ij⟩
        obtain rfl := e0.symm
        obtain ⟨kx, hkx⟩ := ks x0 (List.mem_of_getElem? hx)
        have hk2 := hkx
        walk_at "rd"
        refine Rx.askInt hkx ?_
        walk_at "rd"
        cases hkx with
        | bl b =>
          refine Rd.yes rfl ?_
          walk_at "rd"
          refine Rx.askBl hk2 ?_
          walk_at "rd"
          refine Rd.yes rfl ?_
          walk_at "rd"
          exact k _ (Same.refl _)
        | int v =>
          refine Rd.yes rfl ?_
          walk_at "rd"
          refine Rx.askBl hk2 ?_
          walk_at "rd"
          refine Rd.no Bool.false_ne_true ?_
          walk_at "rd"
          by_cases c1 : l < v
          rotate_left
          · refine Rd.no c1 ?_
            walk_at "rd"
            exact k _ (Same.refl _)
          refine Rd.yes c1 ?_
          walk_at "rd"
          refine Rd.lenStr zl ?_
          walk_at "rd"
          by_cases c2 : v < (z.length : Int)
          rotate_left
          · refine Rd.no c2 ?_
            walk_at "rd"
            exact k _ (Same.refl _)
          refine Rd.yes c2 ?_
          walk_at "rd"
          refine ⟨v, _, rfl, rfl, ?_⟩
          rcases Nat.lt_or_eq_of_le ij with c | c
          · exact c
          · subst c
            rw [hx] at hy
            cases hy
            have : kd = .int v := hk.inj (.int v)
            rw [this] at n
            cases n
        | _ =>
          refine Rd.no Bool.false_ne_true ?_
          walk_at "rd"
          exact k _ (Same.refl _)
      · rintro _ H9 ⟨l, o4, rfl, e0, ij⟩
        omega
    | @nums q P hq p1000 =>
      walk_at "rd"
      refine Rd.isi (Ru.ty_T (.of hq)) (by decide +kernel : kitB "tuple" "tuple" = some true) ?_
      walk_at "rd"
      refine Rd.forS ?_
      walk_at "rd"
      refine ⟨⟨_, .of hq⟩, for_tup (K := K) (a := q) (xs := P.map V.int) (fun i σ H' => ∃ (l : Int) (o4 : Option V), σ = [some (.ref a), some (.str z), some (.ref q), some (.int l), o4, none] ∧ H' = H ∧ SoUp P z.length i l)
        ⟨-1, none, rfl, rfl, ⟨fun _ => rfl, fun j a q => by omega, fun j a b q => by omega, fun j a q => by omega, fun a q => by omega⟩⟩ (fun i σ H' _ ⟨_, _, _, e, _⟩ => e ▸ .of hq) ?_ ?_⟩
      · rintro i x0 _ H9 hx ⟨l, o4, rfl, e0, su⟩
        obtain rfl := e0.symm
        obtain ⟨v, ev, rfl⟩ := Rd.map_get hx
        walk_at "rd"
        refine Rd.isiI ?_
        walk_at "rd"
        refine Rd.isiIB ?_
        walk_at "rd"
        by_cases c1 : l < v
        rotate_left
        · refine Rd.no c1 ?_
          walk_at "rd"
          rw [cutB_no (su.low ev c1)] at k
          exact k _ (Same.refl _)
        refine Rd.yes c1 ?_
        walk_at "rd"
        refine Rd.lenStr zl ?_
        walk_at "rd"
        by_cases c2 : v < (z.length : Int)
        rotate_left
        · refine Rd.no c2 ?_
          walk_at "rd"
          rw [cutB_no fun c => c2 (cutI_top c v (List.mem_of_getElem? ev)).2] at k
          exact k _ (Same.refl _)
        refine Rd.yes c2 ?_
        walk_at "rd"
        exact ⟨v, _, rfl, rfl, su.next ev c1 c2⟩
      · rintro _ H9 ⟨l, o4, rfl, e0, su⟩
        obtain rfl := e0.symm
        rw [List.length_map] at su
        walk_at "rd"
        refine Rd.inIntsN (ws := P) (.inr (.of hq)) ?_
        walk_at "rd"
        have asc : P.Pairwise (· < ·) := asc_of_steps fun i a b ha hb => su.up i a b (by have := (List.getElem?_eq_some_iff.mp hb).1; omega) ha hb
        by_cases zm : (0 : Int) ∈ P
        rotate_left
        · refine Rd.no zm ?_
          walk_at "rd"
          rw [cutB_no fun c => zm (List.mem_of_getElem? (cutI_zero c))] at k
          exact k _ (Same.refl _)
        refine Rd.yes zm ?_
        have p0 : P.length ≠ 0 := fun e => by rw [List.eq_nil_of_length_eq_zero e] at zm; cases zm
        obtain ⟨f0, hf0⟩ : ∃ f, P[0]? = some f := ⟨_, List.getElem?_eq_getElem (by omega)⟩
        obtain rfl : f0 = 0 := by
          have h1 := su.fst f0 (by omega) hf0
          have h2 : f0 ≤ 0 := by
            cases P with
            | nil => cases zm
            | cons b r =>
              cases hf0
              rcases List.mem_cons.mp zm with e | m
              · omega
              · have := (List.pairwise_cons.mp asc).1 0 m
                omega
          omega
        obtain ⟨m, em⟩ : ∃ m, P.getLast? = some m := by
          cases e : P.getLast? with
          | none => rw [List.getLast?_eq_none_iff] at e; rw [e] at p0; exact absurd rfl p0
          | some m => exact ⟨m, rfl⟩
        have mt : m < z.length := by
          rw [List.getLast?_eq_getElem?] at em
          exact su.tp _ m (by omega) em
        obtain ⟨N, eN, nAsc, nz, nt⟩ := nats_of asc hf0 em mt
        walk_at "rd"
        refine ⟨⟨_, .of hq⟩, Rd.lcS walk_tup (fun _ s => .of (s _ _ hq)) (fun D i acc _ => acc.length ≤ i ∧ (acc.length = 0 ↔ ∀ x ∈ N.take i, ∀ y, Mw.Adj ws z x y → y ∈ N)) (fun _ _ _ _ _ => ⟨Nat.le_refl _, fun _ x m => (nomatch m), fun _ => rfl⟩) ?_ ?_⟩
        · rintro D i x G1 _ acc nD hi hD sm1 ⟨al, ai⟩ ⟨rfl, hx⟩
          rw [List.length_map] at hi
          obtain ⟨v', ev', rfl⟩ := Rd.map_get hx
          obtain ⟨v, ev, rfl⟩ : ∃ v : Nat, N[i]? = some v ∧ v' = (v : Nat) := by
            rw [eN, List.getElem?_map] at ev'
            cases e : N[i]? with
            | none => rw [e] at ev'; cases ev'
            | some v => rw [e] at ev'; exact ⟨v, rfl, (Option.some.inj ev').symm⟩
          have vn := nt v (List.mem_of_getElem? ev)
          have gq1 := sm1 _ _ hq
          walk_at "rd"
          refine ⟨rfl, ?_⟩
          walk_at "rd"
          refine ⟨a, ws, z, v, rfl, sm1.seq hS, w1, by omega, by omega, fun l2 xs G2 s2 _ gl2 mem few _ => ?_⟩
          walk_at "rd"
          refine ⟨⟨_, .of gl2⟩, Rd.lcS walk_list (fun _ s => s.seq (.of gl2)) (fun D2 j acc2 _ => acc2.length ≤ j ∧ (acc2.length = 0 ↔ ∀ w ∈ xs.take j, w ∈ P)) (fun _ _ _ _ _ => ⟨Nat.le_refl _, fun _ x m => (nomatch m), fun _ => rfl⟩) ?_ ?_⟩
          · rintro D2 j x2 G3 _ acc2 nD2 hj hD2 sm3 ⟨al2, ai2⟩ ⟨rfl, hx2⟩
            rw [List.length_map] at hj
            obtain ⟨w0, hw0, rfl⟩ := Rd.map_get hx2
            walk_at "rd"
            refine ⟨rfl, ?_⟩
            walk_at "rd"
            refine Rd.inIntsN (ws := P) (.inr (.of (sm3 _ _ (s2 _ _ gq1)))) ?_
            walk_at "rd"
            by_cases c : w0 ∈ P
            · refine Rd.yes c ?_
              walk_at "rd"
              refine ⟨acc2, hD2, sm3, by omega, ?_⟩
              rw [Rd.take_snoc hw0, ai2]
              refine ⟨fun h w m => ?_, fun h w m => h w (List.mem_append_left _ m)⟩
              rcases List.mem_append.mp m with m | m
              · exact h w m
              · rw [List.mem_singleton.mp m]; exact c
            · refine Rd.no c ?_
              walk_at "rd"
              refine Rd.lcPush hD2 nD2 sm3 (by rw [sizeLine_eq]; omega) fun G5 _ _ => ?_
              refine ⟨by rw [List.length_append]; exact Nat.succ_le_succ al2, fun e => by rw [List.length_append, List.length_singleton] at e; omega, fun h => absurd (h w0 ?_) c⟩
              rw [Rd.take_snoc hw0]
              exact List.mem_append_right _ (List.mem_singleton_self _)
          · rintro D2 acc2 G3 nD2 hD2 sm3 ⟨al2, ai2⟩
            rw [List.length_map, List.take_length] at ai2
            have all : acc2.length = 0 ↔ ∀ y, Mw.Adj ws z v y → y ∈ N := by
              rw [ai2]
              constructor
              · intro h y ay
                have := h _ ((mem _).mpr ⟨y, rfl, ay⟩)
                rw [eN] at this
                exact nat_mem.mp this
              · intro h w mw
                obtain ⟨y, rfl, ay⟩ := (mem w).mp mw
                rw [eN]
                exact nat_mem.mpr (h y ay)
            have s13 := (sm1.trans s2).trans sm3
            have hD3 := (s2.trans sm3) _ _ hD
            walk_at "rd"
            refine Rd.len (.inl (.of hD2)) ?_
            walk_at "rd"
            by_cases c : acc2.length = 0
            · refine Rd.no (by omega) ?_
              walk_at "rd"
              refine ⟨acc, hD3, s13, by omega, ?_⟩
              rw [Rd.take_snoc ev, ai]
              refine ⟨fun h x m => ?_, fun h x m => h x (List.mem_append_left _ m)⟩
              rcases List.mem_append.mp m with m | m
              · exact h x m
              · rw [List.mem_singleton.mp m]; exact all.mp c
            · refine Rd.yes (by omega) ?_
              walk_at "rd"
              refine Rd.lcPush hD3 nD s13 (by rw [sizeLine_eq]; omega) fun G5 _ _ => ?_
              refine ⟨by rw [List.length_append]; exact Nat.succ_le_succ al, fun e => by rw [List.length_append, List.length_singleton] at e; omega, fun h => absurd (all.mpr (h v ?_)) c⟩
              rw [Rd.take_snoc ev]
              exact List.mem_append_right _ (List.mem_singleton_self _)
        · rintro D acc G1 nD hD sm1 ⟨al, ai⟩
          have nl : (P.map V.int).length = N.length := by rw [List.length_map, eN, List.length_map]
          rw [nl, List.take_length] at ai
          walk_at "rd"
          refine Rd.len (.inl (.of hD)) ?_
          walk_at "rd"
          have zz : decide (((acc.length : Nat) : Int) = 0) = cutB ws z (some P) := by
            rw [Bool.eq_iff_iff, decide_eq_true_iff]
            constructor
            · intro e
              exact cutB_yes ⟨N, eN, nAsc, nz, nt, ai.mp (by omega)⟩
            · intro h
              obtain ⟨_, e, N2, e2, c⟩ := cutB_iff.mp h
              cases e
              have : N = N2 := (List.map_inj_right fun x y e => by omega).mp (eN.symm.trans e2)
              subst this
              have := ai.mpr c.shut
              omega
          rw [zz]
          exact k _ sm1

end
end W

namespace W
open PySem PySem.Spec PyProof.Rows L2
section
variable {P : Program} {w : World} {K : PySem.W.Frag} {mg : Str → Option Value} {base : Heap}
/-! ### rows of spots, bent -/
/-- an item of a bent row -/
inductive El (H : Hp) : V → Prop
  | int (i : Int) (h : i.natAbs ≤ 1000) : El H (.int i)
  | bl (b : Bool) : El H (.bl b)
  | non : El H .non
  | zero : El H (.str "0")
  | tup {p : Addr} (h : H p = some (.tup [.int 0])) : El H (.ref p)
theorem El.keep {H H' : Hp} (s : ∀ b xs, H b = some (.tup xs) → H' b = some (.tup xs)) {x : V} (h : El H x) : El H' x := by
  cases h with
  | int i h => exact .int i h
  | bl b => exact .bl b
  | non => exact .non
  | zero => exact .zero
  | tup h => exact .tup (s _ _ h)
theorem El.same {H H' : Hp} (s : Same H H') {x : V} (h : El H x) : El H' x := h.keep fun b xs e => s _ _ e
theorem tup_tape {H H' : Hp} {t c : Addr} (tp : Tape H t c) (s : Rd.But t H H') : ∀ b xs, H b = some (.tup xs) → H' b = some (.tup xs) := fun b xs g => by
  obtain ⟨_, _, _, _, _, _, g1, _⟩ := tp
  exact s _ _ (ne_of g g1 fun e => nomatch e) g
theorem tup_lst {H H' : Hp} {l : Addr} {as : List V} (hl : H l = some (.lst as)) (off : ∀ b, b ≠ l → H' b = H b) : ∀ b xs, H b = some (.tup xs) → H' b = some (.tup xs) := fun b xs g => by
  rw [off b (ne_of g hl fun e => nomatch e)]
  exact g
theorem El.is {H : Hp} {x : V} (h : El H x) : ∃ k, Rx.Is H x k ∧ (k.isNum = true → ∃ i, x = .int i) := by
  cases h with
  | int i h => exact ⟨_, .int i, fun _ => ⟨i, rfl⟩⟩
  | bl b => exact ⟨_, .bl b, fun h => nomatch h⟩
  | non => exact ⟨_, .non, fun h => nomatch h⟩
  | zero => exact ⟨_, .str (Nat.le_of_ble_eq_true rfl), fun h => nomatch h⟩
  | tup h => exact ⟨_, .tup h (Nat.le_of_ble_eq_true rfl), fun h => nomatch h⟩
theorem sm_int8 {i : Int} (h : i.natAbs ≤ 1000) : Sm 0 0 (.int i) := ⟨by
  show decide (i.natAbs.log2 < 1920) = true
  refine decide_eq_true ?_
  rcases Nat.eq_zero_or_pos i.natAbs with e | e
  · rw [e]; decide
  · exact (Nat.log2_lt (by omega)).mpr (Nat.lt_of_le_of_lt h (Nat.lt_of_lt_of_le (by decide : 1000 < 2 ^ 10) (Nat.pow_le_pow_right (by decide) (by decide)))), rfl, Nat.le_refl _, by
  show decide ((PyData.shown (.int i)).length ≤ 13) = true
  exact decide_eq_true (PyData.shown_int_le (by omega)), Nat.le_refl _⟩
theorem El.data {H : Hp} {x : V} (h : El H x) : ∃ d, Dp K H x d ∧ Sm 2 10 d := by
  cases h with
  | int i h => exact ⟨_, .int i, (sm_int8 h).up (by decide) (by decide)⟩
  | bl b => exact ⟨_, .bl b, ⟨rfl, rfl, by show 0 ≤ 2; decide, rfl, by show 0 ≤ 10; decide⟩⟩
  | non => exact ⟨_, .non, sm_non.up (by decide) (by decide)⟩
  | zero => exact ⟨_, .str _, ⟨rfl, rfl, by show 0 ≤ 2; decide, by decide +kernel, by decide +kernel⟩⟩
  | tup h => exact ⟨_, .tup (.of h) (.cons (.int 0) .nil), ((SmAll.cons (sm_int8 (i := 0) (by decide)) (.nil 0 0)).tup).up (by decide) (by decide)⟩
theorem els_data {H : Hp} : ∀ {ys : List V}, (∀ y ∈ ys, El H y) → ∃ ds, DpAll K H ys ds ∧ ds.length = ys.length ∧ ∀ d ∈ ds, Sm 2 10 d
  | [], _ => ⟨[], .nil, rfl, fun d m => nomatch m⟩
  | y :: ys, h => by
    obtain ⟨d, hd, sd⟩ := (h y (List.mem_cons_self ..)).data (K := K)
    obtain ⟨ds, hds, l, sds⟩ := els_data fun x m => h x (List.mem_cons_of_mem _ m)
    refine ⟨d :: ds, .cons hd hds, by rw [List.length_cons, List.length_cons, l], fun x m => ?_⟩
    rcases List.mem_cons.mp m with e | m
    · rw [e]; exact sd
    · exact sds x m
/-- a row of such items, as a tuple or as a list -/
def RowZ (H : Hp) (x : V) : Prop := ∃ q ys, x = .ref q ∧ (H q = some (.tup ys) ∨ H q = some (.lst ys)) ∧ ys.length ≤ 100 ∧ ∀ y ∈ ys, El H y
theorem RowZ.same {H H' : Hp} (s : Same H H') {x : V} (h : RowZ H x) : RowZ H' x := let ⟨q, ys, e, g, l, a⟩ := h; ⟨q, ys, e, g.imp (s _ _) (s _ _), l, fun y m => (a y m).same s⟩
theorem RowZ.cut {H : Hp} {x : V} (h : RowZ H x) : ∃ o, CutOf K H x o := by
  obtain ⟨q, ys, rfl, g | g, l, a⟩ := h
  · by_cases c : ∀ y ∈ ys, ∃ i, y = V.int i
    · obtain ⟨P, rfl⟩ : ∃ P : List Int, ys = P.map V.int := by
        clear g l a
        induction ys with
        | nil => exact ⟨[], rfl⟩
        | cons y ys ih =>
          obtain ⟨i, rfl⟩ := c y (List.mem_cons_self ..)
          obtain ⟨P, rfl⟩ := ih fun x m => c x (List.mem_cons_of_mem _ m)
          exact ⟨i :: P, rfl⟩
      rw [List.length_map] at l
      exact ⟨_, .nums g (by omega)⟩
    · obtain ⟨y, c⟩ := Classical.not_forall.mp c
      obtain ⟨m, c⟩ := Classical.not_imp.mp c
      obtain ⟨k, hk, n⟩ := (a y m).is
      have kn : k.isNum = false := by
        cases e : k.isNum with
        | false => rfl
        | true => exact absurd (n e) c
      exact cell_mix8 g (by omega) (fun x m => let ⟨k, h, _⟩ := (a x m).is; ⟨k, h⟩) m hk kn
  · exact ⟨_, .odd (.lst g (by omega)) rfl⟩
theorem RowZ.data {H : Hp} {x : V} (h : RowZ H x) : ∃ q d, x = .ref q ∧ Dp K H x d ∧ Sm 50 (2 ^ 20) d := by
  obtain ⟨q, ys, rfl, g, l, a⟩ := h
  obtain ⟨ds, hd, dl, sd⟩ := els_data (K := K) a
  have sm := smAll_of sd
  rcases g with g | g
  · exact ⟨q, _, rfl, .tup (.of g) hd, sm.tup.up (by decide) (by rw [dl]; omega)⟩
  · exact ⟨q, _, rfl, .lst (.of g) hd, sm.lst.up (by decide) (by rw [dl]; omega)⟩
theorem nat_row {H : Hp} {q : Addr} {N : List Nat} (g : H q = some (.tup (natV N))) (l : N.length ≤ 100) (u : ∀ x ∈ N, x ≤ 100) : RowZ H (.ref q) := ⟨q, natV N, rfl, .inl g, by rw [natV_len]; exact l, fun y m => by
  obtain ⟨i, hi, e⟩ := List.getElem_of_mem m
  obtain ⟨v, ev, rfl⟩ := natV_get (List.getElem?_eq_some_iff.mpr ⟨hi, e⟩)
  have := u v (List.mem_of_getElem? ev)
  exact .int _ (by omega)⟩
theorem natV_el {H : Hp} {N : List Nat} (u : ∀ x ∈ N, x ≤ 100) : ∀ y ∈ natV N, El H y := fun y m => by
  obtain ⟨i, hi, e⟩ := List.getElem_of_mem m
  obtain ⟨v, ev, rfl⟩ := natV_get (List.getElem?_eq_some_iff.mpr ⟨hi, e⟩)
  have := u v (List.mem_of_getElem? ev)
  exact .int _ (by omega)
theorem natV_app (A B : List Nat) : natV A ++ natV B = natV (A ++ B) := by
  unfold natV
  rw [List.map_append, List.map_append]
/-! ### lots of classes -/
def sp_l_lot (K : PySem.W.Frag) : Sp := fun vs H Q _ => ∃ (t c a : Addr) (ws : List Str) (z : Str), vs = [.ref t, .ref a, .str z] ∧ Tape H t c ∧ H a = some (.lst (ws.map V.str)) ∧ (∀ W ∈ ws, 1 ≤ W.length) ∧ z.length ≤ 40 ∧
  ∀ (q : Addr) (N : List Nat) H', H' q = some (.tup (natV N)) → N.Pairwise (· < ·) → (∀ x ∈ N, x ≤ z.length) → (∀ x ∈ N, ∀ y, Mw.Adj ws z x y → y ∈ N) → Tape H' t c → Rd.But t H H' → Q (.ref q) H'
theorem shut_star {A : Nat → Nat → Prop} {N : List Nat} (sh : ∀ x ∈ N, ∀ y, A x y → y ∈ N) {x y : Nat} (s : Mw.Star A x y) (m : x ∈ N) : y ∈ N := by
  induction s with
  | refl => exact m
  | step _ a ih => exact sh _ ih _ a
theorem nat_dec {P : List Nat} {x : Nat} : decide (((x : Nat) : Int) ∈ P.map fun i : Nat => (i : Int)) = decide (x ∈ P) := decide_eq_decide.mpr nat_mem
theorem ok_l_lot (T : Txt K mg) : FnOk P w K mg base CX0 3 T.f_l_lot T.fd_l_lot ["_law_tape_here", "_law_watches_here", "_law_word_here"] (sp_l_lot K) := by
  refine T.F_l_lot.ok sc_l_lot (fun vs H Q E h => ?_) (fun cdv A outer s H vs Q E hr h => ?_)
  · obtain ⟨t, c, a, ws, z, rfl, _⟩ := h
    rfl
  · obtain ⟨t, c, a, ws, z, rfl, tp, ha, w1, z40, k⟩ := h
    refine ⟨_, (pss_cons (ps_set (i := 3) sc_l_lot.nd rfl (.inl rfl) (pe_lst pa_nil))
  (pss_cons (ps_for PassesOwn.never rfl (pi_range1 rfl T.n_range (pa_cons (pe_op op_add (pe_callB (id := "len") (r := _) Rd.c_lenS (by rfl) T.n_len (by decide +kernel) (pa_cons (pv 2) pa_nil)) pe_int) pa_nil)) (pg_name (i := 4) sc_l_lot.nd rfl (.inl rfl))
  (pss_one (ps_if (PW.pt (pw_and (pt_cmpR (r := rIn K true) op_notIn_seq (pv 4) (pv 3) (by rfl)) (pw_and1 (pt_cmpR op_gt (pe_call (ok_l_pick T) (hr.mono (by decide)) rfl T.g_l_pick T.F_l_pick.kp T.b_l_pick .nil pass0 (pa_cons (pv 0) (pa_cons pe_int pa_nil))) pe_int (nomark _)))))
  (pss_one (ps_set (i := 3) sc_l_lot.nd rfl (.inl rfl) (pe_op op_cat (pv 3) (pe_call (ok_l_flood T) (hr.mono (by decide)) rfl T.g_l_flood T.F_l_flood.kp T.b_l_flood .nil pass0 (pa_cons (pv 1) (pa_cons (pv 2) (pa_cons (pv 4) pa_nil)))))))
  pss_nil)))
  (pss_one (ps_ret (pe_callTy (T := "tuple") (r := Rd.nTupOf K) Rd.c_tupOf (by rfl) T.n_tuple (by decide +kernel) (pa_cons (pe_callB (id := "sorted") (r := rSortedI K) cr_sortedI (by rfl) T.n_sorted (by decide +kernel) (pa_cons (pv 3) pa_nil)) pa_nil)))))), ?_⟩
    have zl : z.length ≤ sizeLine := by rw [sizeLine_eq]; omega
    have le : ∀ i j, Mw.Adj ws z i j → j ≤ z.length := fun i j h => h.le.2
    have at_ : a ≠ t := by
      obtain ⟨ns, x, y, z, u, tc, g, h2, r⟩ := tp
      intro e
      subst e
      rw [ha] at g
      have g := Option.some.inj g
      injection g with g
      cases ws with
      | nil => cases g
      | cons w ws => cases g
    walk_at "rd"
    refine ⟨Nat.zero_le _, Rd.new fun F G nF gF sF => ?_⟩
    walk_at "rd"
    refine Rd.forS ?_
    walk_at "rd"
    refine Rd.lenStr zl ?_
    walk_at "rd"
    refine ⟨by omega, by omega, ?_⟩
    refine for_range (lo := 0) (n := ((z.length : Int) + 1).toNat) (fun i σ H' => ∃ (F : Addr) (gs : List Nat) (o4 : Option V), σ = [some (.ref t), some (.ref a), some (.str z), some (.ref F), o4] ∧ H' F = some (.lst (natV gs)) ∧ F ≠ t ∧ gs.Nodup ∧ (∀ x ∈ gs, x ≤ z.length) ∧ (∀ x ∈ gs, ∀ y, Mw.Adj ws z x y → y ∈ gs) ∧ Tape H' t c ∧ Rd.But t H H')
      ⟨F, [], none, rfl, gF, (tp.new nF).1, .nil, fun x m => (nomatch m), fun x m => (nomatch m), tp.same sF, Rd.But.of sF⟩ ?_ ?_
    · rintro i _ H1 hi ⟨F, gs, o4, rfl, gF, Ft, nd, up, sh, tp1, b1⟩
      have gl : gs.length ≤ z.length + 1 := by
        have := Mw.nodup_le gs (List.range (z.length + 1)) nd fun x m => List.mem_range.mpr (by have := up x m; omega)
        rwa [List.length_range] at this
      walk_at "rd"
      rw [Int.zero_add]
      refine Rd.inIntsN (ws := gs.map fun i : Nat => (i : Int)) (.inl (.of gF)) ?_
      rw [nat_dec]
      walk_at "rd"
      by_cases im : i ∈ gs
      · refine Rd.yes im ?_
        walk_at "rd"
        exact ⟨F, gs, _, rfl, gF, Ft, nd, up, sh, tp1, b1⟩
      · refine Rd.no im ?_
        walk_at "rd"
        refine pickR tp1 (by decide) (by decide) fun r H2 r0 r1 tp2 b2 => ?_
        walk_at "rd"
        have gF2 := b2 _ _ Ft gF
        have ha2 := b2 _ _ at_ (b1 _ _ at_ ha)
        refine ite2 (fun q => ?_) (fun q => ?_)
        · walk_at "rd"
          refine ⟨a, ws, z, i, rfl, .of ha2, w1, by omega, by omega, fun L H3 s3 nL gL => ?_⟩
          walk_at "rd"
          have cl := (Mt.cls_asc (A := Mw.Adj ws z) z.length i)
          have clen : (Mc.cls (Mw.Adj ws z) z.length i).length ≤ z.length + 1 := by
            have := Mw.nodup_le _ (List.range (z.length + 1)) (cl.imp fun h => by omega) fun x m => List.mem_range.mpr (by have := (Mc.mem_cls.mp m).1; omega)
            rwa [List.length_range] at this
          refine Rd.cat (s3 _ _ gF2) gL (by rw [natV_len, natV_len, sizeLine_eq]; omega) (Rd.new fun F2 H4 nF2 gF4 s4 => ?_)
          rw [natV_app] at gF4
          walk_at "rd"
          refine ⟨F2, gs ++ Mc.cls (Mw.Adj ws z) z.length i, _, rfl, gF4, ((tp2.same s3).new nF2).1, ?_, ?_, ?_, (tp2.same s3).same s4, (((b1.trans b2).same s3).same s4)⟩
          · rw [List.nodup_append]
            refine ⟨nd, cl.imp fun h => by omega, fun x mx y my e => im ?_⟩
            subst e
            exact shut_star sh ((Mc.mem_cls.mp my).2.symm Mw.Adj.symm) mx
          · intro x m
            rcases List.mem_append.mp m with m | m
            · exact up x m
            · exact (Mc.mem_cls.mp m).1
          · intro x m y ay
            rcases List.mem_append.mp m with m | m
            · exact List.mem_append_left _ (sh x m y ay)
            · exact List.mem_append_right _ (Mc.mem_cls.mpr ⟨le _ _ ay, .step (Mc.mem_cls.mp m).2 ay⟩)
        · walk_at "rd"
          exact ⟨F, gs, _, rfl, gF2, Ft, nd, up, sh, tp2, b1.trans b2⟩
    · rintro _ H1 ⟨F, gs, o4, rfl, gF, Ft, nd, up, sh, tp1, b1⟩
      walk_at "rd"
      refine Rd.sortedI (.of gF) fun ms p2 H3 pm ps gp2 s3 np2 => ?_
      walk_at "rd"
      refine Rd.tupOf (.of gp2) (Rd.new fun u H4 nu gu s4 => ?_)
      have ndi : ms.Nodup := pm.nodup_iff.mpr (by
        rw [List.nodup_iff_pairwise_ne, List.pairwise_map]
        exact (List.nodup_iff_pairwise_ne.mp nd).imp fun h e => h (by omega))
      have mm : ∀ x : Int, x ∈ ms ↔ ∃ y : Nat, y ∈ gs ∧ x = (y : Int) := fun x => by
        rw [pm.mem_iff, List.mem_map]
        exact ⟨fun ⟨y, m, e⟩ => ⟨y, m, e.symm⟩, fun ⟨y, m, e⟩ => ⟨y, m, e.symm⟩⟩
      have e : ms = (ms.map Int.toNat).map (fun i : Nat => (i : Int)) := by
        rw [List.map_map]
        conv => lhs; rw [← List.map_id ms]
        refine List.map_congr_left fun x mx => ?_
        obtain ⟨y, _, rfl⟩ := (mm x).mp mx
        rfl
      have mn : ∀ x : Nat, x ∈ ms.map Int.toNat ↔ x ∈ gs := fun x => by
        rw [List.mem_map]
        constructor
        · rintro ⟨v, mv, rfl⟩
          obtain ⟨y, my, rfl⟩ := (mm v).mp mv
          exact my
        · exact fun h => ⟨(x : Int), (mm _).mpr ⟨x, h, rfl⟩, rfl⟩
      refine k u (ms.map Int.toNat) H4 ?_ ?_ (fun x m => up x ((mn x).mp m)) (fun x m y ay => (mn y).mpr (sh x ((mn x).mp m) y ay)) ((tp1.same s3).same s4) ((b1.same s3).same s4)
      · show H4 u = some (.tup (((ms.map Int.toNat).map fun i : Nat => (i : Int)).map V.int))
        rw [← e]
        exact gu
      · have asc := sorted_lt ps ndi
        rw [e] at asc
        exact (List.pairwise_map.mp asc).imp fun h => by omega

end
end W

namespace W
open PySem PySem.Spec PyProof.Rows L2
section
variable {P : Program} {w : World} {K : PySem.W.Frag} {mg : Str → Option Value} {base : Heap}
/-! ### bent rows -/
def sp_l_bent (K : PySem.W.Frag) : Sp := fun vs H Q _ => ∃ (t c q a : Addr) (ws : List Str) (z : Str) (N : List Nat), vs = [.ref t, .str z, .ref q, .ref a] ∧ Tape H t c ∧ 1 ≤ z.length ∧ z.length ≤ 40 ∧ H q = some (.tup (natV N)) ∧ 1 ≤ N.length ∧ N.length ≤ 50 ∧ (∀ x ∈ N, x ≤ z.length) ∧ H a = some (.lst (ws.map V.str)) ∧ (∀ W ∈ ws, 1 ≤ W.length) ∧
  ∀ (x : V) H', RowZ H' x → Tape H' t c → Rd.But t H H' → Q x H'
def sp_l_bent_too (K : PySem.W.Frag) : Sp := fun vs H Q _ => ∃ (t c q : Addr) (z : Str) (N : List Nat), vs = [.ref t, .str z, .ref q] ∧ Tape H t c ∧ z.length ≤ 40 ∧ H q = some (.tup (natV N)) ∧ N.length ≤ 50 ∧ (∀ x ∈ N, x ≤ z.length) ∧
  ∀ (x : V) H', RowZ H' x → Tape H' t c → Rd.But t H H' → Q x H'
/-- the row R with the items ys, new since H -/
structure RowR (H0 : Hp) (t c R : Addr) (H : Hp) (ys : List V) (m : Nat) : Prop where
  g : H R = some (.lst ys)
  n : H0 R = none
  rt : R ≠ t
  rc : R ≠ c
  l : ys.length ≤ m
  e : ∀ y ∈ ys, El H y
  tp : Tape H t c
  b : Rd.But t H0 H
theorem RowR.same {H0 H H' : Hp} {t c R : Addr} {ys : List V} {m : Nat} (s : Same H H') (h : RowR H0 t c R H ys m) : RowR H0 t c R H' ys m := ⟨s _ _ h.g, h.n, h.rt, h.rc, h.l, fun y q => (h.e y q).same s, h.tp.same s, h.b.same s⟩
theorem RowR.but {H0 H H' : Hp} {t c R : Addr} {ys : List V} {m : Nat} (tp : Tape H' t c) (b : Rd.But t H H') (h : RowR H0 t c R H ys m) : RowR H0 t c R H' ys m := ⟨b _ _ h.rt h.g, h.n, h.rt, h.rc, h.l, fun y q => (h.e y q).keep (tup_tape h.tp b), tp, h.b.trans b⟩
theorem RowR.put {H0 H H' : Hp} {t c R : Addr} {ys zs : List V} {m k : Nat} (h : RowR H0 t c R H ys m) (g : H' R = some (.lst zs)) (off : ∀ b, b ≠ R → H' b = H b) (l : zs.length ≤ k) (e : ∀ y ∈ zs, El H y) : RowR H0 t c R H' zs k := ⟨g, h.n, h.rt, h.rc, l, fun y q => (e y q).keep (tup_lst h.g off), h.tp.off h.rt h.rc off, but_off h.b h.n off⟩
theorem RowR.up {H0 H : Hp} {t c R : Addr} {ys : List V} {m k : Nat} (h : RowR H0 t c R H ys m) (l : m ≤ k) : RowR H0 t c R H ys k := ⟨h.g, h.n, h.rt, h.rc, Nat.le_trans h.l l, h.e, h.tp, h.b⟩
theorem RowR.row {H0 H : Hp} {t c R : Addr} {ys : List V} {m : Nat} (h : RowR H0 t c R H ys m) (l : m ≤ 100) : RowZ H (.ref R) := ⟨R, ys, rfl, .inr h.g, Nat.le_trans h.l l, h.e⟩
theorem ins_mem {ys : List V} {y x : V} {i : Nat} (m : x ∈ ys.take i ++ [y] ++ ys.drop i) : x ∈ ys ∨ x = y := by
  rcases List.mem_append.mp m with m | m
  · rcases List.mem_append.mp m with m | m
    · exact .inl (List.mem_of_mem_take m)
    · exact .inr (List.mem_singleton.mp m)
  · exact .inl (List.mem_of_mem_drop m)
theorem ins_len8 {ys : List V} {y : V} {i : Nat} : (ys.take i ++ [y] ++ ys.drop i).length ≤ ys.length + 1 := by
  rw [List.length_append, List.length_append, List.length_take, List.length_drop, List.length_singleton]
  omega
theorem odd_one {r : Int} (r0 : 0 ≤ r) (r1 : r < 7) {H : Hp} {p : Addr} {n : Nat} (n40 : n ≤ 40) (g : H p = some (.tup [.int 0])) : ∃ y, [V.bl true, .bl false, .non, .str "0", .int (-1), .int ((n : Nat) + 1), .ref p][r.toNat]? = some y ∧ El H y := by
  have : r.toNat = 0 ∨ r.toNat = 1 ∨ r.toNat = 2 ∨ r.toNat = 3 ∨ r.toNat = 4 ∨ r.toNat = 5 ∨ r.toNat = 6 := by omega
  rcases this with e | e | e | e | e | e | e <;> rw [e]
  · exact ⟨_, rfl, .bl _⟩
  · exact ⟨_, rfl, .bl _⟩
  · exact ⟨_, rfl, .non⟩
  · exact ⟨_, rfl, .zero⟩
  · exact ⟨_, rfl, .int _ (by decide)⟩
  · exact ⟨_, rfl, .int _ (by omega)⟩
  · exact ⟨_, rfl, .tup g⟩
theorem odd_two {r : Int} (r0 : 0 ≤ r) (r1 : r < 6) {H : Hp} {n : Nat} (n40 : n ≤ 40) : ∃ y, [V.bl true, .bl false, .non, .str "0", .int (-1), .int (n : Nat)][r.toNat]? = some y ∧ El H y := by
  have : r.toNat = 0 ∨ r.toNat = 1 ∨ r.toNat = 2 ∨ r.toNat = 3 ∨ r.toNat = 4 ∨ r.toNat = 5 := by omega
  rcases this with e | e | e | e | e | e <;> rw [e]
  · exact ⟨_, rfl, .bl _⟩
  · exact ⟨_, rfl, .bl _⟩
  · exact ⟨_, rfl, .non⟩
  · exact ⟨_, rfl, .zero⟩
  · exact ⟨_, rfl, .int _ (by decide)⟩
  · exact ⟨_, rfl, .int _ (by omega)⟩
theorem ok_l_bent_too (T : Txt K mg) : FnOk P w K mg base CX0 2 T.f_l_bent_too T.fd_l_bent_too ["_law_tape_here", "_law_word_here", "_law_lot_here"] (sp_l_bent_too K) := by
  refine T.F_l_bent_too.ok sc_l_bent_too (fun vs H Q E h => ?_) (fun cdv A outer s H vs Q E hr h => ?_)
  · obtain ⟨t, c, q, z, N, rfl, _⟩ := h
    rfl
  · obtain ⟨t, c, q, z, N, rfl, tp, z40, hq, n50, up, k⟩ := h
    refine ⟨_, (pss_cons (ps_set (i := 3) sc_l_bent_too.nd rfl (.inl rfl) (pe_callTy (T := "list") (r := Rd.nListOf K) Rd.c_listOf (by rfl) T.n_list (by decide +kernel) (pa_cons (pv 2) pa_nil)))
  (pss_cons (ps_set (i := 4) sc_l_bent_too.nd rfl (.inl rfl) (pe_call (ok_l_pick T) (hr.mono (by decide)) rfl T.g_l_pick T.F_l_pick.kp T.b_l_pick .nil pass0 (pa_cons (pv 0) (pa_cons pe_int pa_nil))))
  (pss_cons (ps_set (i := 5) sc_l_bent_too.nd rfl (.inl rfl) (pe_call (ok_l_pick T) (hr.mono (by decide)) rfl T.g_l_pick T.F_l_pick.kp T.b_l_pick .nil pass0 (pa_cons (pv 0) (pa_cons (pe_op op_add (pe_callB (id := "len") (r := Rd.nLen K) Rd.c_len (by rfl) T.n_len (by decide +kernel) (pa_cons (pv 3) pa_nil)) pe_int) pa_nil))))
  (C8.pss_cut (ps_if (pt_cmpR op_eq (pv 4) pe_int (nomark _))
  (pss_one (ps_expr (pe_bm PySem.F.plainAttrs_list PySem.F.slot_list_insert PySem.F.type_list_insert Rd.m_insert (pv 3) (pa_cons (pv 5) (pa_cons (pe_call (ok_l_pick T) (hr.mono (by decide)) rfl T.g_l_pick T.F_l_pick.kp T.b_l_pick .nil pass0 (pa_cons (pv 0) (pa_cons (pe_op op_add (pe_callB (id := "len") (r := _) Rd.c_lenS (by rfl) T.n_len (by decide +kernel) (pa_cons (pv 1) pa_nil)) pe_int) pa_nil))) pa_nil)))))
  pss_nil)
  (C8.pss_cut (ps_if (PW.pt (pw_and (pt_cmpR op_eq (pv 4) pe_int (nomark _)) (pw_and1 (pt_cmpR op_lt (pv 5) (pe_callB (id := "len") (r := Rd.nLen K) Rd.c_len (by rfl) T.n_len (by decide +kernel) (pa_cons (pv 3) pa_nil)) (nomark _)))))
  (pss_one (ps_expr (pe_bm PySem.F.plainAttrs_list PySem.F.slot_list_pop PySem.F.type_list_pop mt_popAt (pv 3) (pa_cons (pv 5) pa_nil))))
  pss_nil)
  (C8.pss_cut (ps_if (PW.pt (pw_and (pt_cmpR op_eq (pv 4) pe_int (nomark _)) (pw_and1 (pt_cmpR op_lt (pv 5) (pe_callB (id := "len") (r := Rd.nLen K) Rd.c_len (by rfl) T.n_len (by decide +kernel) (pa_cons (pv 3) pa_nil)) (nomark _)))))
  (pss_one (ps_expr (pe_bm PySem.F.plainAttrs_list PySem.F.slot_list_insert PySem.F.type_list_insert Rd.m_insert (pv 3) (pa_cons (pv 5) (pa_cons (pe_ix (r := rIxL K) ix_list (pv 3) (pv 5) (fun _ _ => rfl)) pa_nil)))))
  pss_nil)
  (C8.pss_cut (ps_if (pt_cmpR op_eq (pv 4) pe_int (nomark _))
  (pss_one (ps_set (i := 3) sc_l_bent_too.nd rfl (.inl rfl) (pe_revL (pv 3))))
  pss_nil)
  (pss_cons (ps_if (pt_cmpR op_eq (pv 4) pe_int (nomark _))
  (pss_one (ps_ret (pv 3)))
  pss_nil)
  (C8.pss_cut (ps_if (PW.pt (pw_and (pt_cmpR op_eq (pv 4) pe_int (nomark _)) (pw_and1 (pt_cmpR op_lt (pv 5) (pe_callB (id := "len") (r := Rd.nLen K) Rd.c_len (by rfl) T.n_len (by decide +kernel) (pa_cons (pv 3) pa_nil)) (nomark _)))))
  (pss_one (ps_asg (pe_ix (r := rIxL K) ix_list (pe_lst (pa_cons pe_bl (pa_cons pe_bl (pa_cons pe_non (pa_cons pe_str (pa_cons (pe_un un_neg pe_int) (pa_cons (pe_callB (id := "len") (r := _) Rd.c_lenS (by rfl) T.n_len (by decide +kernel) (pa_cons (pv 1) pa_nil)) pa_nil))))))) (pe_call (ok_l_pick T) (hr.mono (by decide)) rfl T.g_l_pick T.F_l_pick.kp T.b_l_pick .nil pass0 (pa_cons (pv 0) (pa_cons pe_int pa_nil))) (fun _ _ => rfl)) (pg_sub (pv 3) (pv 5) set_list)))
  pss_nil)
  (pss_one (ps_ret (pe_callTy (T := "tuple") (r := Rd.nTupOf K) Rd.c_tupOf (by rfl) T.n_tuple (by decide +kernel) (pa_cons (pv 3) pa_nil))))))))))))), ?_⟩
    have zl : z.length ≤ sizeLine := by rw [sizeLine_eq]; omega
    have u100 : ∀ x ∈ N, x ≤ 100 := fun x m => by have := up x m; omega
    walk_at "rd"
    refine Rd.listOf (.inr (.of hq)) (Rd.new fun R H1 nR gR s1 => ?_)
    have ⟨Rt, Rc⟩ := tp.new nR
    have h1 : RowR H t c R H1 (natV N) 50 := ⟨gR, nR, Rt, Rc, by rw [natV_len]; exact n50, natV_el u100, tp.same s1, Rd.But.of s1⟩
    walk_at "rd"
    refine pickR h1.tp (by decide) (by decide) fun kd H2 k0 k1 tp2 b2 => ?_
    have h2 := h1.but tp2 b2
    walk_at "rd"
    refine Rd.len (.inl (.of h2.g)) ?_
    rw [natV_len]
    walk_at "rd"
    refine pickR h2.tp (by omega) (by omega) fun at_ H3 a0 a1 tp3 b3 => ?_
    have h3 := h2.but tp3 b3
    clear h1 h2 tp2 b2 tp3 b3 gR nR s1 tp
    walk_at "rd"
    refine Rd.cut (fun σ H' => ∃ (ys : List V), σ = [some (.ref t), some (.str z), some (.ref q), some (.ref R), some (.int kd), some (.int at_)] ∧ RowR H t c R H' ys 51 ∧ (0 < kd → ys = natV N)) ?_ ?_
    · walk_at "rd"
      refine ite2 (fun e => ?_) (fun e => ?_)
      · walk_at "rd"
        refine Rd.tyL (.of h3.g) ?_
        walk_at "rd"
        refine Rd.lenStr zl ?_
        walk_at "rd"
        refine pickR h3.tp (by omega) (by omega) fun r H4 r0 r1 tp4 b4 => ?_
        have h4 := h3.but tp4 b4
        walk_at "rd"
        refine Rd.insert h4.g (by rw [natV_len, sizeLine_eq]; omega) a0 (by omega) fun G g off => ?_
        walk_at "rd"
        refine ⟨_, rfl, h4.put g off (Nat.le_trans ins_len8 (by rw [natV_len]; omega)) fun y m => ?_, fun h => by omega⟩
        rcases ins_mem m with m | e
        · exact h4.e y m
        · rw [e]; exact .int _ (by omega)
      · walk_at "rd"
        exact ⟨_, rfl, h3.up (by decide), fun _ => rfl⟩
    clear h3
    rintro _ H4 ⟨ys, rfl, h4, ey⟩
    have y51 := h4.l
    walk_at "rd"
    refine Rd.cut (fun σ H' => ∃ (ys : List V), σ = [some (.ref t), some (.str z), some (.ref q), some (.ref R), some (.int kd), some (.int at_)] ∧ RowR H t c R H' ys 51 ∧ (1 < kd → ys = natV N)) ?_ ?_
    · walk_at "rd"
      refine ite2 (fun e => ?_) (fun e => ?_)
      · walk_at "rd"
        refine Rd.len (.inl (.of h4.g)) ?_
        walk_at "rd"
        refine ite2 (fun e2 => ?_) (fun e2 => ?_)
        · walk_at "rd"
          refine Rd.tyL (.of h4.g) ?_
          walk_at "rd"
          have ai : at_.toNat < ys.length := by omega
          refine Rd.popAt h4.g a0 (by omega) (by omega) (List.getElem?_eq_getElem ai) fun G g off => ?_
          walk_at "rd"
          exact ⟨_, rfl, h4.put g off (Nat.le_trans (List.length_eraseIdx_le _ _) y51) fun y m => h4.e y (List.mem_of_mem_eraseIdx m), fun h => by omega⟩
        · walk_at "rd"
          exact ⟨_, rfl, h4, fun h => by omega⟩
      · walk_at "rd"
        exact ⟨_, rfl, h4, fun h => ey (by omega)⟩
    clear h4 ey y51
    rintro _ H5 ⟨ys, rfl, h5, ey⟩
    have y51 := h5.l
    walk_at "rd"
    refine Rd.cut (fun σ H' => ∃ (ys : List V), σ = [some (.ref t), some (.str z), some (.ref q), some (.ref R), some (.int kd), some (.int at_)] ∧ RowR H t c R H' ys 52 ∧ (2 < kd → ys = natV N)) ?_ ?_
    · walk_at "rd"
      refine ite2 (fun e => ?_) (fun e => ?_)
      · walk_at "rd"
        refine Rd.len (.inl (.of h5.g)) ?_
        walk_at "rd"
        refine ite2 (fun e2 => ?_) (fun e2 => ?_)
        · walk_at "rd"
          refine Rd.tyL (.of h5.g) ?_
          walk_at "rd"
          have ai : at_.toNat < ys.length := by omega
          refine Rd.ixL (.of h5.g) (Rd.atI_of a0 (List.getElem?_eq_getElem ai)) ?_
          walk_at "rd"
          refine Rd.insert h5.g (by rw [sizeLine_eq]; omega) a0 (by omega) fun G g off => ?_
          walk_at "rd"
          refine ⟨_, rfl, h5.put g off (Nat.le_trans ins_len8 (by omega)) fun y m => ?_, fun h => by omega⟩
          rcases ins_mem m with m | e
          · exact h5.e y m
          · rw [e]; exact h5.e _ (List.getElem_mem ai)
        · walk_at "rd"
          exact ⟨_, rfl, h5.up (by decide), fun h => by omega⟩
      · walk_at "rd"
        exact ⟨_, rfl, h5.up (by decide), fun h => ey (by omega)⟩
    clear h5 ey y51
    rintro _ H6 ⟨ys, rfl, h6, ey⟩
    have y52 := h6.l
    walk_at "rd"
    refine Rd.cut (fun σ H' => ∃ (R : Addr) (ys : List V), σ = [some (.ref t), some (.str z), some (.ref q), some (.ref R), some (.int kd), some (.int at_)] ∧ RowR H t c R H' ys 52) ?_ ?_
    · walk_at "rd"
      refine ite2 (fun e => ?_) (fun e => ?_)
      · walk_at "rd"
        refine ⟨R, _, rfl, .of h6.g, Rd.new fun R2 H7 nR2 gR2 s7 => ?_⟩
        have h7 := h6.same s7
        have ⟨t1, t2⟩ := h6.tp.new nR2
        walk_at "rd"
        exact ⟨R2, _, rfl, gR2, by
          cases e : H R2 with
          | none => rfl
          | some o => exact absurd nR2 (by rw [h6.b _ _ t1 e]; exact fun h => nomatch h), t1, t2, by rw [List.length_reverse]; exact y52, fun y m => h7.e y (List.mem_reverse.mp m), h7.tp, h7.b⟩
      · walk_at "rd"
        exact ⟨R, _, rfl, h6⟩
    clear h6 ey y52
    rintro _ H7 ⟨R, ys, rfl, h7⟩
    have y52 := h7.l
    walk_at "rd"
    refine ite2 (fun e => ?_) (fun e => ?_)
    · walk_at "rd"
      exact k _ _ (h7.row (by decide)) h7.tp h7.b
    walk_at "rd"
    refine Rd.cut (fun σ H' => ∃ (ys : List V), σ = [some (.ref t), some (.str z), some (.ref q), some (.ref R), some (.int kd), some (.int at_)] ∧ RowR H t c R H' ys 52) ?_ ?_
    · walk_at "rd"
      refine ite2 (fun e => ?_) (fun e => ?_)
      · walk_at "rd"
        refine Rd.len (.inl (.of h7.g)) ?_
        walk_at "rd"
        refine ite2 (fun e2 => ?_) (fun e2 => ?_)
        · walk_at "rd"
          refine Rd.lenStr zl ?_
          walk_at "rd"
          refine ⟨Nat.le_of_ble_eq_true rfl, Rd.new fun l1 H8 nl1 gl1 s8 => ?_⟩
          have ⟨l1t, _⟩ := h7.tp.new nl1
          have h8 := h7.same s8
          walk_at "rd"
          refine pickR h8.tp (by decide) (by decide) fun r H9 r0 r1 tp9 b9 => ?_
          have h9 := h8.but tp9 b9
          obtain ⟨y, hy, ely⟩ := odd_two r0 r1 (H := H9) z40
          refine Rd.ixL (.of (b9 _ _ l1t gl1)) (Rd.atI_of r0 hy) ?_
          walk_at "rd"
          refine Rd.setG h9.g (Rd.ixN_of a0 (by omega)) rfl fun G g off => ?_
          walk_at "rd"
          refine ⟨_, rfl, h9.put g off (by rw [List.length_set]; exact y52) fun x m => ?_⟩
          rcases List.mem_or_eq_of_mem_set m with m | e
          · exact h9.e x m
          · rw [e]; exact ely
        · walk_at "rd"
          exact ⟨_, rfl, h7⟩
      · walk_at "rd"
        exact ⟨_, rfl, h7⟩
    clear h7 y52
    rintro _ H8 ⟨ys, rfl, h8⟩
    have y52 := h8.l
    walk_at "rd"
    refine Rd.tupOf (.of h8.g) (Rd.new fun u H9 nu gu s9 => ?_)
    have h9 := h8.same s9
    exact k _ _ ⟨u, ys, rfl, .inl gu, by omega, h9.e⟩ h9.tp h9.b
theorem ok_l_bent (T : Txt K mg) : FnOk P w K mg base CX0 2 T.f_l_bent T.fd_l_bent ["_law_tape_here", "_law_word_here", "_law_way", "_law_watches_here"] (sp_l_bent K) := by
  refine T.F_l_bent.ok sc_l_bent (fun vs H Q E h => ?_) (fun cdv A outer s H vs Q E hr h => ?_)
  · obtain ⟨t, c, q, a, ws, z, N, rfl, _⟩ := h
    rfl
  · obtain ⟨t, c, q, a, ws, z, N, rfl, tp, z0, z40, hq, n0, n50, up, ha, w1, k⟩ := h
    refine ⟨_, (pss_cons (ps_set (i := 4) sc_l_bent.nd rfl (.inl rfl) (pe_call (ok_l_pick T) (hr.mono (by decide)) rfl T.g_l_pick T.F_l_pick.kp T.b_l_pick .nil pass0 (pa_cons (pv 0) (pa_cons (pe_callB (id := "len") (r := Rd.nLen K) Rd.c_len (by rfl) T.n_len (by decide +kernel) (pa_cons (pv 2) pa_nil)) pa_nil))))
  (pss_cons (ps_set (i := 5) sc_l_bent.nd rfl (.inl rfl) (pe_call (ok_l_pick T) (hr.mono (by decide)) rfl T.g_l_pick T.F_l_pick.kp T.b_l_pick .nil pass0 (pa_cons (pv 0) (pa_cons (pe_callB (id := "len") (r := Rd.nLen K) Rd.c_len (by rfl) T.n_len (by decide +kernel) (pa_cons (pv 2) pa_nil)) pa_nil))))
  (pss_cons (ps_set (i := 6) sc_l_bent.nd rfl (.inl rfl) (pe_callTy (T := "list") (r := Rd.nListOf K) Rd.c_listOf (by rfl) T.n_list (by decide +kernel) (pa_cons (pv 2) pa_nil)))
  (pss_cons (ps_set (i := 7) sc_l_bent.nd rfl (.inl rfl) (pe_call (ok_l_pick T) (hr.mono (by decide)) rfl T.g_l_pick T.F_l_pick.kp T.b_l_pick .nil pass0 (pa_cons (pv 0) (pa_cons pe_int pa_nil))))
  (C8.pss_cut (ps_if (pt_cmpR op_eq (pv 7) pe_int (nomark _))
  (pss_one (ps_asg (pe_call (ok_l_pick T) (hr.mono (by decide)) rfl T.g_l_pick T.F_l_pick.kp T.b_l_pick .nil pass0 (pa_cons (pv 0) (pa_cons (pe_op op_add (pe_callB (id := "len") (r := _) Rd.c_lenS (by rfl) T.n_len (by decide +kernel) (pa_cons (pv 1) pa_nil)) pe_int) pa_nil))) (pg_sub (pv 6) (pv 4) set_list)))
  pss_nil)
  (C8.pss_cut (ps_if (pt_cmpR op_eq (pv 7) pe_int (nomark _))
  (pss_one (ps_expr (pe_bm PySem.F.plainAttrs_list PySem.F.slot_list_insert PySem.F.type_list_insert Rd.m_insert (pv 6) (pa_cons (pv 4) (pa_cons (pe_ix (r := rIxL K) ix_list (pv 6) (pv 5) (fun _ _ => rfl)) pa_nil)))))
  pss_nil)
  (C8.pss_cut (ps_if (pt_cmpR op_eq (pv 7) pe_int (nomark _))
  (pss_one (ps_expr (pe_bm PySem.F.plainAttrs_list PySem.F.slot_list_pop PySem.F.type_list_pop mt_popAt (pv 6) (pa_cons (pv 4) pa_nil))))
  pss_nil)
  (C8.pss_cut (ps_if (pt_cmpR op_eq (pv 7) pe_int (nomark _))
  (pss_cons (ps_asg (pe_ix (r := rIxT K) ix_tup (pv 2) (pv 5) (fun _ _ => rfl)) (pg_sub (pv 6) (pv 4) set_list))
  (pss_one (ps_asg (pe_ix (r := rIxT K) ix_tup (pv 2) (pv 4) (fun _ _ => rfl)) (pg_sub (pv 6) (pv 5) set_list))))
  pss_nil)
  (pss_cons (ps_if (pt_cmpR op_eq (pv 7) pe_int (nomark _))
  (pss_one (ps_ret (pv 6)))
  pss_nil)
  (C8.pss_cut (ps_if (pt_cmpR op_eq (pv 7) pe_int (nomark _))
  (pss_one (ps_asg (pe_ix (r := rIxL K) ix_list (pe_lst (pa_cons pe_bl (pa_cons pe_bl (pa_cons pe_non (pa_cons pe_str (pa_cons (pe_un un_neg pe_int) (pa_cons (pe_op op_add (pe_callB (id := "len") (r := _) Rd.c_lenS (by rfl) T.n_len (by decide +kernel) (pa_cons (pv 1) pa_nil)) pe_int) (pa_cons (pe_tup (pa_cons pe_int pa_nil)) pa_nil)))))))) (pe_call (ok_l_pick T) (hr.mono (by decide)) rfl T.g_l_pick T.F_l_pick.kp T.b_l_pick .nil pass0 (pa_cons (pv 0) (pa_cons pe_int pa_nil))) (fun _ _ => rfl)) (pg_sub (pv 6) (pv 4) set_list)))
  pss_nil)
  (C8.pss_cut (ps_if (pt_cmpR op_eq (pv 7) pe_int (nomark _))
  (pss_cons (ps_set (i := 8) sc_l_bent.nd rfl (.inl rfl) (pe_call (ok_l_near T) (hr.mono (by decide)) rfl T.g_l_near T.F_l_near.kp T.b_l_near .nil pass0 (pa_cons (pv 3) (pa_cons (pv 1) (pa_cons (pe_ix (r := rIxT K) ix_tup (pv 2) (pv 4) (fun _ _ => rfl)) pa_nil)))))
  (pss_one (ps_if (pt_cmpR op_gt (pe_callB (id := "len") (r := Rd.nLen K) Rd.c_len (by rfl) T.n_len (by decide +kernel) (pa_cons (pv 8) pa_nil)) pe_int (nomark _))
  (pss_one (ps_set (i := 6) sc_l_bent.nd rfl (.inl rfl) (pe_op op_cat (pe_op op_cat (pe_slice (r := rSlL K) sl_list (pv 6) po_none (po_some (pe_op op_add (pv 4) pe_int))) (pe_lst (pa_cons (pe_ix (r := rIxL K) ix_list (pv 8) (pe_call (ok_l_pick T) (hr.mono (by decide)) rfl T.g_l_pick T.F_l_pick.kp T.b_l_pick .nil pass0 (pa_cons (pv 0) (pa_cons (pe_callB (id := "len") (r := Rd.nLen K) Rd.c_len (by rfl) T.n_len (by decide +kernel) (pa_cons (pv 8) pa_nil)) pa_nil))) (fun _ _ => rfl)) pa_nil))) (pe_slice (r := rSlL K) sl_list (pv 6) (po_some (pv 4)) po_none))))
  pss_nil)))
  pss_nil)
  (C8.pss_cut (ps_if (pt_cmpR op_eq (pv 7) pe_int (nomark _))
  (pss_one (ps_set (i := 6) sc_l_bent.nd rfl (.inl rfl) (pe_op op_cat (pv 6) (pe_lst (pa_cons (pe_call (ok_l_pick T) (hr.mono (by decide)) rfl T.g_l_pick T.F_l_pick.kp T.b_l_pick .nil pass0 (pa_cons (pv 0) (pa_cons (pe_op op_add (pe_callB (id := "len") (r := _) Rd.c_lenS (by rfl) T.n_len (by decide +kernel) (pa_cons (pv 1) pa_nil)) pe_int) pa_nil))) pa_nil)))))
  pss_nil)
  (pss_one (ps_ret (pe_callTy (T := "tuple") (r := Rd.nTupOf K) Rd.c_tupOf (by rfl) T.n_tuple (by decide +kernel) (pa_cons (pv 6) pa_nil)))))))))))))))), ?_⟩
    have zl : z.length ≤ sizeLine := by rw [sizeLine_eq]; omega
    have u100 : ∀ x ∈ N, x ≤ 100 := fun x m => by have := up x m; omega
    have le : ∀ i j, Mw.Adj ws z i j → j ≤ z.length := fun i j h => h.le.2
    have qt : q ≠ t := by
      obtain ⟨_, _, _, _, _, _, g2, _⟩ := tp
      exact ne_of hq g2 fun e => nomatch e
    have at' : a ≠ t := by
      obtain ⟨ns, x, y, z, u, tc, g, h2, r⟩ := tp
      intro e
      subst e
      rw [ha] at g
      have g := Option.some.inj g
      injection g with g
      cases ws with
      | nil => cases g
      | cons w ws => cases g
    walk_at "rd"
    refine Rd.len (.inr (.of hq)) ?_
    rw [natV_len]
    walk_at "rd"
    refine pickR tp (by omega) (by omega) fun at_ H1 a0 a1 tp1 b1 => ?_
    have hq1 := b1 _ _ qt hq
    walk_at "rd"
    refine Rd.len (.inr (.of hq1)) ?_
    rw [natV_len]
    walk_at "rd"
    refine pickR tp1 (by omega) (by omega) fun ot H2 o0 o1 tp2 b2 => ?_
    have hq2 := b2 _ _ qt hq1
    have b02 := b1.trans b2
    walk_at "rd"
    refine Rd.listOf (.inr (.of hq2)) (Rd.new fun R H3 nR gR s3 => ?_)
    have ⟨Rt, Rc⟩ := tp2.new nR
    have nR0 : H R = none := by
      cases e : H R with
      | none => rfl
      | some o => exact absurd nR (by rw [b02 _ _ Rt e]; exact fun h => nomatch h)
    have h3 : RowR H t c R H3 (natV N) 50 := ⟨gR, nR0, Rt, Rc, by rw [natV_len]; exact n50, natV_el u100, tp2.same s3, b02.same s3⟩
    walk_at "rd"
    refine pickR h3.tp (by decide) (by decide) fun kd H4 k0 k1 tp4 b4 => ?_
    have h4 := h3.but tp4 b4
    have qR : q ≠ R := ne_of_none hq nR0
    have aR : a ≠ R := ne_of_none ha nR0
    have ai : at_.toNat < N.length := by omega
    have oi : ot.toNat < N.length := by omega
    obtain ⟨va, eva⟩ : ∃ v, N[at_.toNat]? = some v := ⟨_, List.getElem?_eq_getElem ai⟩
    obtain ⟨vo, evo⟩ : ∃ v, N[ot.toNat]? = some v := ⟨_, List.getElem?_eq_getElem oi⟩
    have va1 := up va (List.mem_of_getElem? eva)
    have vo1 := up vo (List.mem_of_getElem? evo)
    have atA : atI (natV N) at_ = some (.int (va : Nat)) := Rd.atI_of a0 (nat_at eva)
    have atO : atI (natV N) ot = some (.int (vo : Nat)) := Rd.atI_of o0 (nat_at evo)
    clear h3 tp1 tp2 b1 b2 b02 gR nR s3 hq1 hq2 tp4 b4 tp
    have hqX : ∀ {G : Hp} {ys : List V} {m : Nat}, RowR H t c R G ys m → G q = some (.tup (natV N)) := fun h => h.b _ _ qt hq
    have haX : ∀ {G : Hp} {ys : List V} {m : Nat}, RowR H t c R G ys m → G a = some (.lst (ws.map V.str)) := fun h => h.b _ _ at' ha
    walk_at "rd"
    refine Rd.cut (fun σ H' => ∃ (ys : List V), σ = [some (.ref t), some (.str z), some (.ref q), some (.ref a), some (.int at_), some (.int ot), some (.ref R), some (.int kd), none] ∧ RowR H t c R H' ys 50 ∧ (0 < kd → ys = natV N)) ?_ ?_
    · walk_at "rd"
      refine ite2 (fun e => ?_) (fun e => ?_)
      · walk_at "rd"
        refine Rd.lenStr zl ?_
        walk_at "rd"
        refine pickR h4.tp (by omega) (by omega) fun r H5 r0 r1 tp5 b5 => ?_
        have h5 := h4.but tp5 b5
        walk_at "rd"
        refine Rd.setG h5.g (Rd.ixN_of a0 (by rw [natV_len]; omega)) rfl fun G g off => ?_
        walk_at "rd"
        refine ⟨_, rfl, h5.put g off (by rw [List.length_set]; exact h5.l) fun y m => ?_, fun h => by omega⟩
        rcases List.mem_or_eq_of_mem_set m with m | e
        · exact h5.e y m
        · rw [e]; exact .int _ (by omega)
      · walk_at "rd"
        exact ⟨_, rfl, h4, fun _ => rfl⟩
    clear h4
    rintro _ H5 ⟨ys, rfl, h5, ey⟩
    walk_at "rd"
    refine Rd.cut (fun σ H' => ∃ (ys : List V), σ = [some (.ref t), some (.str z), some (.ref q), some (.ref a), some (.int at_), some (.int ot), some (.ref R), some (.int kd), none] ∧ RowR H t c R H' ys 51 ∧ (1 < kd → ys = natV N)) ?_ ?_
    · walk_at "rd"
      refine ite2 (fun e => ?_) (fun e => ?_)
      · have ey := ey (by omega)
        subst ey
        walk_at "rd"
        refine Rd.tyL (.of h5.g) ?_
        walk_at "rd"
        refine Rd.ixL (.of h5.g) atO ?_
        walk_at "rd"
        refine Rd.insert h5.g (by rw [natV_len, sizeLine_eq]; omega) a0 (by omega) fun G g off => ?_
        walk_at "rd"
        refine ⟨_, rfl, h5.put g off (Nat.le_trans ins_len8 (by have := h5.l; omega)) fun y m => ?_, fun h => by omega⟩
        rcases ins_mem m with m | e
        · exact h5.e y m
        · rw [e]; exact .int _ (by omega)
      · walk_at "rd"
        exact ⟨_, rfl, h5.up (by decide), fun h => ey (by omega)⟩
    clear h5 ey
    rintro _ H6 ⟨ys, rfl, h6, ey⟩
    walk_at "rd"
    refine Rd.cut (fun σ H' => ∃ (ys : List V), σ = [some (.ref t), some (.str z), some (.ref q), some (.ref a), some (.int at_), some (.int ot), some (.ref R), some (.int kd), none] ∧ RowR H t c R H' ys 51 ∧ (2 < kd → ys = natV N)) ?_ ?_
    · walk_at "rd"
      refine ite2 (fun e => ?_) (fun e => ?_)
      · have ey := ey (by omega)
        subst ey
        walk_at "rd"
        refine Rd.tyL (.of h6.g) ?_
        walk_at "rd"
        refine Rd.popAt h6.g a0 (by rw [natV_len]; omega) (by rw [natV_len]; omega) (nat_at eva) fun G g off => ?_
        walk_at "rd"
        exact ⟨_, rfl, h6.put g off (Nat.le_trans (List.length_eraseIdx_le _ _) h6.l) fun y m => h6.e y (List.mem_of_mem_eraseIdx m), fun h => by omega⟩
      · walk_at "rd"
        exact ⟨_, rfl, h6, fun h => ey (by omega)⟩
    clear h6 ey
    rintro _ H7 ⟨ys, rfl, h7, ey⟩
    walk_at "rd"
    refine Rd.cut (fun σ H' => ∃ (ys : List V), σ = [some (.ref t), some (.str z), some (.ref q), some (.ref a), some (.int at_), some (.int ot), some (.ref R), some (.int kd), none] ∧ RowR H t c R H' ys 51 ∧ (3 < kd → ys = natV N)) ?_ ?_
    · walk_at "rd"
      refine ite2 (fun e => ?_) (fun e => ?_)
      · have ey := ey (by omega)
        subst ey
        walk_at "rd"
        refine Rd.ixT (.of (hqX h7)) atO ?_
        walk_at "rd"
        refine Rd.setG h7.g (Rd.ixN_of a0 (by rw [natV_len]; omega)) rfl fun G g off => ?_
        have h8 := h7.put g off (k := 51) (by rw [List.length_set]; exact h7.l) fun y m => by
          rcases List.mem_or_eq_of_mem_set m with m | e
          · exact h7.e y m
          · rw [e]; exact .int _ (by omega)
        walk_at "rd"
        refine Rd.ixT (.of (hqX h8)) atA ?_
        walk_at "rd"
        refine Rd.setG h8.g (Rd.ixN_of o0 (by rw [List.length_set, natV_len]; omega)) rfl fun G2 g2 off2 => ?_
        walk_at "rd"
        refine ⟨_, rfl, h8.put g2 off2 (by rw [List.length_set]; exact h8.l) fun y m => ?_, fun h => by omega⟩
        rcases List.mem_or_eq_of_mem_set m with m | e
        · exact h8.e y m
        · rw [e]; exact .int _ (by omega)
      · walk_at "rd"
        exact ⟨_, rfl, h7, fun h => ey (by omega)⟩
    clear h7 ey
    rintro _ H8 ⟨ys, rfl, h8, ey⟩
    walk_at "rd"
    refine ite2 (fun e => ?_) (fun e => ?_)
    · walk_at "rd"
      exact k _ _ (h8.row (by decide)) h8.tp h8.b
    walk_at "rd"
    refine Rd.cut (fun σ H' => ∃ (ys : List V), σ = [some (.ref t), some (.str z), some (.ref q), some (.ref a), some (.int at_), some (.int ot), some (.ref R), some (.int kd), none] ∧ RowR H t c R H' ys 51 ∧ (5 < kd → ys = natV N)) ?_ ?_
    · walk_at "rd"
      refine ite2 (fun e => ?_) (fun e => ?_)
      · have ey := ey (by omega)
        subst ey
        walk_at "rd"
        refine Rd.lenStr zl ?_
        walk_at "rd"
        refine ⟨Nat.le_of_ble_eq_true rfl, Rd.new fun p1 H9 np1 gp1 s9 => ?_⟩
        walk_at "rd"
        refine ⟨Nat.le_of_ble_eq_true rfl, Rd.new fun l1 H10 nl1 gl1 s10 => ?_⟩
        have h10 := (h8.same s9).same s10
        have ⟨l1t, _⟩ := (h8.same s9).tp.new nl1
        walk_at "rd"
        refine pickR h10.tp (by decide) (by decide) fun r H11 r0 r1 tp11 b11 => ?_
        have h11 := h10.but tp11 b11
        have gp11 := tup_tape h10.tp b11 _ _ (s10 _ _ gp1)
        obtain ⟨y, hy, ely⟩ := odd_one r0 r1 z40 gp11
        refine Rd.ixL (.of (b11 _ _ l1t gl1)) (Rd.atI_of r0 hy) ?_
        walk_at "rd"
        refine Rd.setG h11.g (Rd.ixN_of a0 (by rw [natV_len]; omega)) rfl fun G g off => ?_
        walk_at "rd"
        refine ⟨_, rfl, h11.put g off (by rw [List.length_set]; exact h11.l) fun x m => ?_, fun h => by omega⟩
        rcases List.mem_or_eq_of_mem_set m with m | e
        · exact h11.e x m
        · rw [e]; exact ely
      · walk_at "rd"
        exact ⟨_, rfl, h8, fun h => ey (by omega)⟩
    clear h8 ey
    rintro _ H9 ⟨ys, rfl, h9, ey⟩
    walk_at "rd"
    refine Rd.cut (fun σ H' => ∃ (R : Addr) (ys : List V) (o8 : Option V), σ = [some (.ref t), some (.str z), some (.ref q), some (.ref a), some (.int at_), some (.int ot), some (.ref R), some (.int kd), o8] ∧ RowR H t c R H' ys 60) ?_ ?_
    · walk_at "rd"
      refine ite2 (fun e => ?_) (fun e => ?_)
      · have ey := ey (by omega)
        subst ey
        walk_at "rd"
        refine Rd.ixT (.of (hqX h9)) atA ?_
        walk_at "rd"
        refine ⟨a, ws, z, va, rfl, .of (haX h9), w1, by omega, va1, fun l xs H10 s10 nl gl mem few _ => ?_⟩
        have h10 := h9.same s10
        have ⟨lt, _⟩ := h9.tp.new nl
        walk_at "rd"
        refine Rd.len (.inl (.of gl)) ?_
        rw [List.length_map]
        walk_at "rd"
        refine ite2 (fun e2 => ?_) (fun e2 => ?_)
        · walk_at "rd"
          refine Rd.slL (.of h10.g) (Rd.new fun u1 H11 nu1 gu1 s11 => ?_)
          have h11 := h10.same s11
          have ⟨u1t, _⟩ := h10.tp.new nu1
          walk_at "rd"
          refine Rd.len (.inl (.of (s11 _ _ gl))) ?_
          rw [List.length_map]
          walk_at "rd"
          refine pickR h11.tp (by omega) (by omega) fun r H12 r0 r1 tp12 b12 => ?_
          have h12 := h11.but tp12 b12
          have gl12 := b12 _ _ lt (s11 _ _ gl)
          have gu12 := b12 _ _ u1t gu1
          have ri : r.toNat < xs.length := by omega
          refine Rd.ixL (.of gl12) (Rd.atI_of r0 (Rd.map_int ri)) ?_
          have xe : El H12 (V.int xs[r.toNat]) := by
            obtain ⟨j, ej, aj⟩ := (mem _).mp (List.getElem_mem ri)
            have := le _ _ aj
            exact .int _ (by omega)
          generalize xs[r.toNat] = xv at xe
          walk_at "rd"
          refine ⟨Nat.le_of_ble_eq_true rfl, Rd.new fun u2 H13 nu2 gu2 s13 => ?_⟩
          have l1 := cutV_length (natV N) none (some (at_ + 1))
          have l2 := cutV_length (natV N) (some at_) none
          rw [natV_len] at l1 l2
          refine Rd.cat (s13 _ _ gu12) gu2 (by rw [sizeLine_eq, List.length_singleton]; omega) (Rd.new fun u3 H14 nu3 gu3 s14 => ?_)
          have h14 := (h12.same s13).same s14
          walk_at "rd"
          refine Rd.slL (.of h14.g) (Rd.new fun u4 H15 nu4 gu4 s15 => ?_)
          walk_at "rd"
          refine Rd.cat (s15 _ _ gu3) gu4 (by rw [sizeLine_eq, List.length_append, List.length_singleton]; omega) (Rd.new fun u5 H16 nu5 gu5 s16 => ?_)
          have h16 := (h14.same s15).same s16
          have ⟨t1, t2⟩ := (h14.same s15).tp.new nu5
          walk_at "rd"
          refine ⟨u5, _, _, rfl, gu5, by
            cases e : H u5 with
            | none => rfl
            | some o => exact absurd nu5 (by rw [(h14.same s15).b _ _ t1 e]; exact fun h => nomatch h), t1, t2, ?_, fun y m => ?_, h16.tp, h16.b⟩
          · have e1 : cutV (natV N) none (some (at_ + 1)) = (natV N).take (at_ + 1).toNat := cut_toI (by omega)
            have e2 : cutV (natV N) (some at_) none = (natV N).drop at_.toNat := cut_from8 a0 (by rw [natV_len]; omega)
            rw [e1, e2, List.length_append, List.length_append, List.length_take, List.length_drop, List.length_singleton, natV_len]
            omega
          · rcases List.mem_append.mp m with m | m
            · rcases List.mem_append.mp m with m | m
              · exact natV_el u100 y (cutV_mem8 m)
              · rw [List.mem_singleton.mp m]
                exact xe.keep fun b xs g => ((((s13.trans s14).trans s15).trans s16) _ _ g)
            · exact natV_el u100 y (cutV_mem8 m)
        · walk_at "rd"
          exact ⟨R, _, _, rfl, h10.up (by decide)⟩
      · walk_at "rd"
        exact ⟨R, _, _, rfl, h9.up (by decide)⟩
    clear h9 ey
    rintro _ H10 ⟨R, ys, o8, rfl, h10⟩
    have y60 := h10.l
    walk_at "rd"
    refine Rd.cut (fun σ H' => ∃ (R : Addr) (ys : List V), σ = [some (.ref t), some (.str z), some (.ref q), some (.ref a), some (.int at_), some (.int ot), some (.ref R), some (.int kd), o8] ∧ RowR H t c R H' ys 61) ?_ ?_
    · walk_at "rd"
      refine ite2 (fun e => ?_) (fun e => ?_)
      · walk_at "rd"
        refine Rd.lenStr zl ?_
        walk_at "rd"
        refine pickR h10.tp (by omega) (by omega) fun r H11 r0 r1 tp11 b11 => ?_
        have h11 := h10.but tp11 b11
        walk_at "rd"
        refine ⟨Nat.le_of_ble_eq_true rfl, Rd.new fun u2 H13 nu2 gu2 s13 => ?_⟩
        have h13 := h11.same s13
        refine Rd.cat h13.g gu2 (by rw [sizeLine_eq, List.length_singleton]; omega) (Rd.new fun u5 H16 nu5 gu5 s16 => ?_)
        have h16 := h13.same s16
        have ⟨t1, t2⟩ := h13.tp.new nu5
        walk_at "rd"
        refine ⟨u5, _, rfl, gu5, by
          cases e : H u5 with
          | none => rfl
          | some o => exact absurd nu5 (by rw [h13.b _ _ t1 e]; exact fun h => nomatch h), t1, t2, by rw [List.length_append, List.length_singleton]; omega, fun y m => ?_, h16.tp, h16.b⟩
        rcases List.mem_append.mp m with m | m
        · exact h16.e y m
        · rw [List.mem_singleton.mp m]; exact .int _ (by omega)
      · walk_at "rd"
        exact ⟨R, _, rfl, h10.up (by decide)⟩
    clear h10 y60
    rintro _ H11 ⟨R, ys, rfl, h11⟩
    have y61 := h11.l
    walk_at "rd"
    refine Rd.tupOf (.of h11.g) (Rd.new fun u H12 nu gu s12 => ?_)
    have h12 := h11.same s12
    exact k _ _ ⟨u, ys, rfl, .inl gu, by omega, h12.e⟩ h12.tp h12.b

end
end W

namespace W
open PySem PySem.Spec PyProof.Rows L2
section
variable {P : Program} {w : World} {K : PySem.W.Frag} {mg : Str → Option Value} {base : Heap}
/-! ### the two halves -/
def sp_l_first (K : PySem.W.Frag) (C : Addr) : Sp := fun vs H Q _ => ∃ (a : Addr) (ns : List Int), vs = [.ref a] ∧ SqL K H a (ns.map V.int) ∧ ns.length ≤ 63 ∧ ∀ H', Same H H' → Q (.bl true) H'
def sp_l_second (K : PySem.W.Frag) (C : Addr) : Sp := fun vs H Q _ => ∃ (a : Addr) (ns : List Int), vs = [.ref a] ∧ SqL K H a (ns.map V.int) ∧ ns.length ≤ 63 ∧ ∀ H', Q (.bl true) H'
def sp_law (K : PySem.W.Frag) : Sp := fun vs H Q _ => ∃ (a : Addr) (ns : List Int), vs = [.ref a] ∧ SqL K H a (ns.map V.int) ∧ ns.length ≤ 63 ∧ ∀ H', Q (.bl true) H'
theorem mkB {C : Addr} {H : Hp} {Q : VK} {E : XK} {a : Addr} {ws : List Str} (h : Ru.SqR K H a (ws.map V.str)) (L : Watches ws) (k : ∀ b H', BookAt C H' b ws → Same H H' → Q (.ref b) H') : Rd.MkG C (sp_Book_init K C) [] E [.ref a] H Q := by
  refine Rd.mk fun b dx G nb nd ne gb s off => ?_
  refine ⟨b, a, ws, rfl, ⟨dx, gb⟩, ?_, L, fun H' hB bt => ⟨rfl, k b H' hB fun q o e => bt q o (ne_of_none e nb) (s _ _ e)⟩⟩
  rcases h with h | h
  · exact .inl (s.seq h)
  · exact .inr (Ru.same_tup s h)
theorem eqv_bls : ∀ n : Nat, PyData.eqvAll ((List.replicate n false).map PyData.bool) ((List.replicate n false).map PyData.bool) = true
  | 0 => rfl
  | n + 1 => by
    show (PyData.eqv (.bool false) (.bool false) && _) = true
    rw [eqv_bls n]
    rfl
theorem dp_bls {H : Hp} : ∀ n : Nat, DpAll K H ((List.replicate n false).map V.bl) ((List.replicate n false).map PyData.bool)
  | 0 => .nil
  | n + 1 => .cons (.bl false) (dp_bls n)
theorem zigB_one {ws : List Str} {z : Str} {P : List Int} (n0 : 1 ≤ z.length) (l : P.length < 2) : zigB ws z (some P) = false := zigB_no fun c => by have := zig_two c (by omega); omega
theorem zig_few8 {ws : List Str} {z : Str} {P : List Nat} (h : Mp.ZigX (Mw.Adj ws z) z.length 0 P) : (∀ x ∈ P, x ≤ z.length) ∧ P.length ≤ z.length + 1 := by
  have u := h.le (fun i j a => a.le) (Nat.zero_le _)
  refine ⟨u, ?_⟩
  have := Mw.nodup_le P (List.range (z.length + 1)) h.nd fun x m => List.mem_range.mpr (by have := u x m; omega)
  rwa [List.length_range] at this
theorem neData {H : Hp} {a b : Addr} {d : PyData} {Q : VK} (h1 : Dp K H (.ref a) d) (h2 : Dp K H (.ref b) d) (h : SeqAt.shaped d = true) (q : Q (.bl false) H) : rNeD K (.ref a) (.ref b) H Q := by
  refine ⟨_, _, h1, h2, h, h, ?_⟩
  rw [SeqAt.eqv_refl _ (SeqAt.canLay_of_shaped h)]
  exact q
theorem eqData {H : Hp} {a b : Addr} {d : PyData} {Q : VK} (h1 : Dp K H (.ref a) d) (h2 : Dp K H (.ref b) d) (h : SeqAt.shaped d = true) (q : Q (.bl true) H) : rEqD K (.ref a) (.ref b) H Q := by
  refine ⟨_, _, h1, h2, h, h, ?_⟩
  rw [SeqAt.eqv_refl _ (SeqAt.canLay_of_shaped h)]
  exact q
def natD (P : List Nat) : PyData := .tuple ((P.map fun i : Nat => (i : Int)).map PyData.int)
theorem nat_dp {H : Hp} {q : Addr} {P : List Nat} (g : H q = some (.tup (natV P))) : Dp K H (.ref q) (natD P) := .tup (.of g) (Rd.dpAll_ints _)
/-- the least and the greatest cut, or twice nothing -/
def Due2 (H : Hp) (ws : List Str) (z : Str) (v1 v2 : V) : Prop := (Mw.Told ws z ∧ v1 = .non ∧ v2 = .non) ∨ (¬ Mw.Told ws z ∧ ∃ q1 q2, v1 = .ref q1 ∧ v2 = .ref q2 ∧ H q1 = some (.tup (natV (Mc.cls (Mw.Adj ws z) z.length 0))) ∧ H q2 = some (.tup (natV (cutG (Mw.Adj ws z) z.length))))
theorem Due2.keep {H H' : Hp} (s : ∀ b xs, H b = some (.tup xs) → H' b = some (.tup xs)) {ws : List Str} {z : Str} {v1 v2 : V} (h : Due2 H ws z v1 v2) : Due2 H' ws z v1 v2 := h.imp id fun ⟨n, q1, q2, e1, e2, g1, g2⟩ => ⟨n, q1, q2, e1, e2, s _ _ g1, s _ _ g2⟩
noncomputable def dueD (ws : List Str) (z : Str) : PyData := @ite _ (Mw.Told ws z) (Classical.propDecidable _) (.tuple [.none, .none]) (.tuple [natD (Mc.cls (Mw.Adj ws z) z.length 0), natD (cutG (Mw.Adj ws z) z.length)])
theorem due_dp {H : Hp} {p : Addr} {ws : List Str} {z : Str} {v1 v2 : V} (g : H p = some (.tup [v1, v2])) (h : Due2 H ws z v1 v2) : Dp K H (.ref p) (dueD ws z) := by
  unfold dueD
  rcases h with ⟨t, rfl, rfl⟩ | ⟨t, q1, q2, rfl, rfl, g1, g2⟩
  · rw [@if_pos _ (Classical.propDecidable _) t]
    exact .tup (.of g) (.cons .non (.cons .non .nil))
  · rw [@if_neg _ (Classical.propDecidable _) t]
    exact .tup (.of g) (.cons (nat_dp g1) (.cons (nat_dp g2) .nil))
theorem due_sh (ws : List Str) (z : Str) : SeqAt.shaped (dueD ws z) = true := by
  unfold dueD
  by_cases t : Mw.Told ws z
  · rw [@if_pos _ (Classical.propDecidable _) t]
    decide
  · rw [@if_neg _ (Classical.propDecidable _) t]
    generalize Mc.cls (Mw.Adj ws z) z.length 0 = A
    generalize cutG (Mw.Adj ws z) z.length = B
    have h1 : PyData.canLay0 (.tuple [natD A, natD B]) = true := by
      show (PyData.canLayAll0 ((A.map fun i : Nat => (i : Int)).map PyData.int) && (PyData.canLayAll0 ((B.map fun i : Nat => (i : Int)).map PyData.int) && true)) = true
      rw [show PyData.canLayAll0 ((A.map fun i : Nat => (i : Int)).map PyData.int) = true from Rd.canLay_ints _, show PyData.canLayAll0 ((B.map fun i : Nat => (i : Int)).map PyData.int) = true from Rd.canLay_ints _]
      rfl
    have h2 : PyData.depth (.tuple [natD A, natD B]) = 2 := by
      show max (PyData.depthAll ((A.map fun i : Nat => (i : Int)).map PyData.int) + 1) (max (PyData.depthAll ((B.map fun i : Nat => (i : Int)).map PyData.int) + 1) 0) + 1 = 2
      rw [Rd.depth_ints, Rd.depth_ints]
      rfl
    unfold SeqAt.shaped
    rw [h1, h2]
    rfl
theorem Ans.due {H H' G G' : Hp} {ws : List Str} {z : Str} {r1 r2 : V} (s : Same G H') (h1 : Ans H G (Mw.Told ws z) (Mc.cls (Mw.Adj ws z) z.length 0) r1) (h2 : Ans G' H' (Mw.Told ws z) (cutG (Mw.Adj ws z) z.length) r2) : Due2 H' ws z r1 r2 := by
  rcases h1 with ⟨rfl, t⟩ | ⟨n, q1, rfl, g1, _⟩
  · rcases h2 with ⟨rfl, _⟩ | ⟨n, _⟩
    · exact .inl ⟨t, rfl, rfl⟩
    · exact absurd t n
  · rcases h2 with ⟨_, t⟩ | ⟨_, q2, rfl, g2, _⟩
    · exact absurd t n
    · exact .inr ⟨n, q1, q2, rfl, rfl, s _ _ g1, g2⟩
theorem cut_lot {ws : List Str} {z : Str} {N : List Nat} (asc : N.Pairwise (· < ·)) (up : ∀ x ∈ N, x ≤ z.length) (sh : ∀ x ∈ N, ∀ y, Mw.Adj ws z x y → y ∈ N) : cutB ws z (some (N.map fun i : Nat => (i : Int))) = (decide (0 ∈ N) && !decide (z.length ∈ N)) := by
  rw [Bool.eq_iff_iff, cutB_iff, Bool.and_eq_true, decide_eq_true_iff, Bool.not_eq_true', decide_eq_false_iff_not]
  constructor
  · rintro ⟨P, e, N2, e2, c⟩
    cases e
    have : N = N2 := (List.map_inj_right fun x y e => by omega).mp e2
    subst this
    exact ⟨List.mem_of_getElem? c.zero, fun m => by have := c.top _ m; omega⟩
  · rintro ⟨m0, nn⟩
    refine ⟨_, rfl, N, rfl, asc, head_zero asc m0, fun x m => ?_, sh⟩
    have := up x m
    rcases Nat.lt_or_eq_of_le this with c | c
    · exact c
    · rw [c] at m; exact absurd m nn
theorem ok_l_first (T : Txt K mg) : Rg.FnG P w K mg base CX0 6 T.f_l_first T.fd_l_first ["_law_script"] (sp_l_first K T.C_Book) := by
  refine Rg.okG T.F_l_first sc_l_first (fun vs H Q E h => ?_) (fun cdv A outer s H vs Q E gd hr h => ?_)
  · obtain ⟨a, ns, rfl, _⟩ := h
    rfl
  · obtain ⟨a, ns, rfl, ha, _, k⟩ := h
    refine ⟨_, (pss_cons (ps_set (i := 1) sc_l_first.nd rfl (.inr rfl) (pe_call (ok_l_tape T) (hr.mono (by decide)) rfl T.g_l_tape T.F_l_tape.kp T.b_l_tape .nil pass0 (pa_cons (pv 0) pa_nil)))
  (pss_cons (ps_set (i := 2) sc_l_first.nd rfl (.inr rfl) (pe_call (ok_l_word T) (hr.mono (by decide)) rfl T.g_l_word T.F_l_word.kp T.b_l_word .nil pass0 (pa_cons (pv 1) (pa_cons pe_int pa_nil))))
  (pss_cons (ps_set (i := 3) sc_l_first.nd rfl (.inl rfl) (pe_call (ok_l_watches T) (hr.mono (by decide)) rfl T.g_l_watches T.F_l_watches.kp T.b_l_watches .nil pass0 (pa_cons (pv 1) (pa_cons (pv 2) (pa_cons (pe_op op_add pe_int (pe_call (ok_l_pick T) (hr.mono (by decide)) rfl T.g_l_pick T.F_l_pick.kp T.b_l_pick .nil pass0 (pa_cons (pv 1) (pa_cons pe_int pa_nil)))) (pa_cons pe_int pa_nil))))))
  (pss_cons (ps_set (i := 4) sc_l_first.nd rfl (.inr rfl) (pe_make T.M_Book (ok_Book_init T) (hr.mono (by decide)) rfl T.c_Book T.b_Book_init .nil pass0 (pa_cons (pv 3) pa_nil)))
  (pss_cons (ps_set (i := 5) sc_l_first.nd rfl (.inl rfl) (pe_call (ok_zigzag T) (hr.mono (by decide)) rfl T.g_zigzag T.F_zigzag.kp T.b_zigzag .nil pass0 (pa_cons (pv 4) (pa_cons (pv 2) pa_nil))))
  (C8.pss_cut (ps_if (pt_cmpR op_isN (pv 5) pe_non (nomark _))
  (pss_one (ps_set (i := 5) sc_l_first.nd rfl (.inl rfl) (pe_callTy (T := "tuple") (r := Rd.nTupOf K) Rd.c_tupOf (by rfl) T.n_tuple (by decide +kernel) (pa_cons (pe_op op_cat (pe_op op_cat (pe_lst (pa_cons pe_int pa_nil)) (pe_lc (own := [("_law_k", 12)]) (g := gName 12) (tt := tYes) rfl sc_l_first.nd (pi_range1 rfl T.n_range (pa_cons (pe_call (ok_l_pick T) (hr.mono (by decide)) rfl T.g_l_pick T.F_l_pick.kp T.b_l_pick .nil pass0 (pa_cons (pv 1) (pa_cons pe_int pa_nil))) pa_nil)) (blkOk_by (own := [("_law_k", 12)]) (N := ["_law_script", "_law_tape_here", "_law_word_here", "_law_watches_here", "_law_book", "_law_way", "_law_turn", "_law_thing", "_law_kept", "_law_less", "_law_fewer", "_law_things", "_law_k"]) (sc := defScope s_l_first) (by decide +kernel)) (fun _ _ _ _ _ => (pg_name (i := 12) sc_l_first.nd rfl (.inl rfl))) (fun _ _ _ _ _ => pts_nil) (fun _ _ _ _ _ => (pe_call (ok_l_pick T) (hr.mono (by decide)) rfl T.g_l_pick T.F_l_pick.kp T.b_l_pick .nil pass0 (pa_cons (pv 1) (pa_cons (pe_op op_add (pe_callB (id := "len") (r := _) Rd.c_lenS (by rfl) T.n_len (by decide +kernel) (pa_cons (pv 2) pa_nil)) pe_int) pa_nil)))))) (pe_lst (pa_cons (pe_callB (id := "len") (r := _) Rd.c_lenS (by rfl) T.n_len (by decide +kernel) (pa_cons (pv 2) pa_nil)) pa_nil))) pa_nil))))
  pss_nil)
  (pss_cons (ps_for PassesOwn.never rfl (pi_range1 rfl T.n_range (pa_cons pe_int pa_nil)) (pg_name (i := 6) sc_l_first.nd rfl (.inl rfl))
  (pss_cons (ps_set (i := 7) sc_l_first.nd rfl (.inl rfl) (pv 5))
  (C8.pss_cut (ps_if (pt_cmpR op_gt (pv 6) pe_int (nomark _))
  (pss_one (ps_set (i := 7) sc_l_first.nd rfl (.inl rfl) (pe_call (ok_l_bent T) (hr.mono (by decide)) rfl T.g_l_bent T.F_l_bent.kp T.b_l_bent .nil pass0 (pa_cons (pv 1) (pa_cons (pv 2) (pa_cons (pv 5) (pa_cons (pv 3) pa_nil)))))))
  pss_nil)
  (pss_cons (ps_set (i := 8) sc_l_first.nd rfl (.inl rfl) (pe_callB (id := "repr") (r := Rg.rRepr K) (Rg.cr_repr gd (Rg.u101 hr)) (by rfl) T.n_repr (by decide +kernel) (pa_cons (pv 7) pa_nil)))
  (pss_one (ps_if (PW.pt (pw_or (pt_not (pt_val (pe_call (ok_l_flag T) (hr.mono (by decide)) rfl T.g_l_flag T.F_l_flag.kp T.b_l_flag .nil pass0 (pa_cons (pe_call (ok_is_zigzag T) (hr.mono (by decide)) rfl T.g_is_zigzag T.F_is_zigzag.kp T.b_is_zigzag .nil pass0 (pa_cons (pv 4) (pa_cons (pv 2) (pa_cons (pv 7) pa_nil)))) (pa_cons (pe_call (ok_l_is_zigzag T) (hr.mono (by decide)) rfl T.g_l_is_zigzag T.F_l_is_zigzag.kp T.b_l_is_zigzag .nil pass0 (pa_cons (pv 3) (pa_cons (pv 2) (pa_cons (pv 7) pa_nil)))) pa_nil))))) (pw_or1 (pt_cmpR op_ne (pe_callB (id := "repr") (r := Rg.rRepr K) (Rg.cr_repr gd (Rg.u101 hr)) (by rfl) T.n_repr (by decide +kernel) (pa_cons (pv 7) pa_nil)) (pv 8) (nomark _)))))
  (pss_one (ps_ret pe_bl))
  pss_nil))))))
  (pss_cons (ps_set (i := 9) sc_l_first.nd rfl (.inl rfl) (pe_slice sl_str (pv 2) po_none (po_some (pe_op op_add pe_int (pe_call (ok_l_pick T) (hr.mono (by decide)) rfl T.g_l_pick T.F_l_pick.kp T.b_l_pick .nil pass0 (pa_cons (pv 1) (pa_cons (pe_callB (id := "len") (r := _) Rd.c_lenS (by rfl) T.n_len (by decide +kernel) (pa_cons (pv 2) pa_nil)) pa_nil)))))))
  (pss_cons (ps_if (pt_not (pt_val (pe_call (ok_l_flag T) (hr.mono (by decide)) rfl T.g_l_flag T.F_l_flag.kp T.b_l_flag .nil pass0 (pa_cons (pe_call (ok_is_zigzag T) (hr.mono (by decide)) rfl T.g_is_zigzag T.F_is_zigzag.kp T.b_is_zigzag .nil pass0 (pa_cons (pv 4) (pa_cons (pv 9) (pa_cons (pv 5) pa_nil)))) (pa_cons (pe_call (ok_l_is_zigzag T) (hr.mono (by decide)) rfl T.g_l_is_zigzag T.F_l_is_zigzag.kp T.b_l_is_zigzag .nil pass0 (pa_cons (pv 3) (pa_cons (pv 9) (pa_cons (pv 5) pa_nil)))) pa_nil)))))
  (pss_one (ps_ret pe_bl))
  pss_nil)
  (pss_cons (ps_set (i := 10) sc_l_first.nd rfl (.inl rfl) (pe_slice (r := rSlL K) sl_list (pv 3) (po_some pe_int) po_none))
  (pss_cons (ps_if (pt_not (pt_val (pe_call (ok_l_flag T) (hr.mono (by decide)) rfl T.g_l_flag T.F_l_flag.kp T.b_l_flag .nil pass0 (pa_cons (pe_call (ok_is_zigzag T) (hr.mono (by decide)) rfl T.g_is_zigzag T.F_is_zigzag.kp T.b_is_zigzag .nil pass0 (pa_cons (pe_make T.M_Book (ok_Book_init T) (hr.mono (by decide)) rfl T.c_Book T.b_Book_init .nil pass0 (pa_cons (pv 10) pa_nil)) (pa_cons (pv 2) (pa_cons (pv 5) pa_nil)))) (pa_cons (pe_call (ok_l_is_zigzag T) (hr.mono (by decide)) rfl T.g_l_is_zigzag T.F_l_is_zigzag.kp T.b_l_is_zigzag .nil pass0 (pa_cons (pv 10) (pa_cons (pv 2) (pa_cons (pv 5) pa_nil)))) pa_nil)))))
  (pss_one (ps_ret pe_bl))
  pss_nil)
  (pss_cons (ps_set (i := 11) sc_l_first.nd rfl (.inl rfl) (pe_lst (pa_cons pe_non (pa_cons pe_bl (pa_cons pe_int (pa_cons pe_str (pa_cons (pe_tup pa_nil) (pa_cons (pe_tup (pa_cons pe_int pa_nil)) (pa_cons (pe_tup (pa_cons (pe_callB (id := "len") (r := _) Rd.c_lenS (by rfl) T.n_len (by decide +kernel) (pa_cons (pv 2) pa_nil)) pa_nil)) (pa_cons (pe_disp (pps_cons pe_int pe_int pps_nil) rfl rfl (by simp) (by decide)) (pa_cons (pe_lst (pa_cons pe_int (pa_cons (pe_callB (id := "len") (r := _) Rd.c_lenS (by rfl) T.n_len (by decide +kernel) (pa_cons (pv 2) pa_nil)) pa_nil))) (pa_cons (pe_tup (pa_cons (pv 5) pa_nil)) (pa_cons (pe_tup (pa_cons (pe_tup (pa_cons pe_int (pa_cons (pe_callB (id := "len") (r := _) Rd.c_lenS (by rfl) T.n_len (by decide +kernel) (pa_cons (pv 2) pa_nil)) pa_nil))) pa_nil)) (pa_cons (pv 4) (pa_cons (pv 2) pa_nil)))))))))))))))
  (pss_one (ps_ret (pe_cmpR (r := rEqD K) (op_eqD hr.units) (pe_lc (own := [("_law_thing", 7)]) (g := gName 7) (tt := tYes) rfl sc_l_first.nd (pi_list (pv 11)) (blkOk_by (own := [("_law_thing", 7)]) (N := ["_law_script", "_law_tape_here", "_law_word_here", "_law_watches_here", "_law_book", "_law_way", "_law_turn", "_law_thing", "_law_kept", "_law_less", "_law_fewer", "_law_things", "_law_k"]) (sc := defScope s_l_first) (by decide +kernel)) (fun _ _ _ _ _ => (pg_name (i := 7) sc_l_first.nd rfl (.inl rfl))) (fun _ _ _ _ _ => pts_nil) (fun _ _ _ _ _ => (pe_call (ok_is_zigzag T) (hr.mono (by decide)) rfl T.g_is_zigzag T.F_is_zigzag.kp T.b_is_zigzag .nil pass0 (pa_cons (pv 4) (pa_cons (pv 2) (pa_cons (pv 7) pa_nil)))))) (pe_op op_rep (pe_lst (pa_cons pe_bl pa_nil)) (pe_callB (id := "len") (r := Rd.nLen K) Rd.c_len (by rfl) T.n_len (by decide +kernel) (pa_cons (pv 11) pa_nil))) (nomark _)))))))))))))))), ?_⟩
    walk_at "rd"
    refine ⟨a, ns, rfl, ha, fun t c H1 tp1 s1 nt nc => ?_⟩
    walk_at "rd"
    refine ⟨t, c, 20, rfl, tp1, by decide, by decide, fun z H2 hz tp2 b2 => ?_⟩
    have z0 := hz.l0
    have z1 := hz.l1
    have zl : z.length ≤ sizeLine := by rw [sizeLine_eq]; omega
    have z40 : Lt.Wd 40 z := hz.mono (by decide)
    walk_at "rd"
    refine pickR tp2 (by decide) (by decide) fun m H3 m0 m1 tp3 b3 => ?_
    walk_at "rd"
    refine ⟨t, c, z, _, 12, rfl, tp3, hz.mono (by decide), by omega, by omega, by decide, by decide, fun la ws H4 tp4 b4 nla gla nd wl hw _ => ?_⟩
    have lat : la ≠ t := (tp3.new nla).1
    have W : Watches ws := ⟨nd, by omega, hw⟩
    have w1 : ∀ W ∈ ws, 1 ≤ W.length := fun x m => (hw x m).l0
    have b04 : Rd.But t H H4 := (Rd.But.of s1).trans (b2.trans (b3.trans b4))
    walk_at "rd"
    refine mkB (.inl (.of gla)) W fun bk H5 hB5 s5 => ?_
    walk_at "rd"
    refine ⟨bk, ws, z, rfl, hB5, W, z40, fun r H6 s6 hz6 => ?_⟩
    have tp6 := (tp4.same s5).same s6
    have gla6 := s6 _ _ (s5 _ _ gla)
    have hB6 := hB5.same s6
    have b06 := (b04.same s5).same s6
    clear tp2 tp3 tp4 b2 b3 b4 b04 nla gla s5 hB5 ha
    walk_at "rd"
    refine Rd.cut (fun σ H' => ∃ (q : Addr) (N : List Nat), σ = [some (.ref a), some (.ref t), some (.str z), some (.ref la), some (.ref bk), some (.ref q), none, none, none, none, none, none, none] ∧ H' q = some (.tup (natV N)) ∧ 1 ≤ N.length ∧ N.length ≤ 50 ∧ (∀ x ∈ N, x ≤ z.length) ∧ Tape H' t c ∧ H' la = some (.lst (ws.map V.str)) ∧ BookAt T.C_Book H' bk ws ∧ Rd.But t H H') ?_ ?_
    · walk_at "go"
      rcases hz6 with ⟨rfl, _⟩ | ⟨q, N, rfl, gq, _, gr⟩
      · walk_at "go"
        refine ⟨Nat.le_of_ble_eq_true rfl, Rd.new fun l1 H7 nl1 gl1 s7 => ?_⟩
        have tp7 := tp6.same s7
        have ⟨l1t, _⟩ := tp6.new nl1
        walk_at "rd"
        refine pickR tp7 (by decide) (by decide) fun mm H8 mm0 mm1 tp8 b8 => ?_
        walk_at "rd"
        refine ⟨by omega, by omega, ?_⟩
        refine lcT walk_range tp8 (fun _ _ => trivial) (fun D2 i acc _ => ∃ N : List Nat, acc = natV N ∧ N.length = i ∧ ∀ x ∈ N, x ≤ z.length) (fun _ _ _ _ _ => ⟨[], rfl, rfl, fun x m => nomatch m⟩) ?_ ?_
        · rintro D2 i x G _ acc nD2 hi hD2 tpG bG ⟨N, rfl, nl, up⟩ ⟨rfl, rfl⟩
          have d2t := (tp8.new nD2).1
          walk_at "rd"
          refine ⟨rfl, ?_⟩
          walk_at "rd"
          refine Rd.lenStr zl ?_
          walk_at "rd"
          refine pickR tpG (by omega) (by omega) fun r5 H5 r50 r51 tp5 b5 => ?_
          rw [show r5 = ((r5.toNat : Nat) : Int) by omega]
          refine lcPuT (b5 _ _ d2t hD2) nD2 tp8 tp5 (bG.trans b5) (by rw [natV_len, sizeLine_eq]; omega) fun G2 g2 off2 => ?_
          refine ⟨N ++ [r5.toNat], by unfold natV; rw [List.map_append, List.map_append]; rfl, by rw [List.length_append, nl]; rfl, fun x m => ?_⟩
          rcases List.mem_append.mp m with m | m
          · exact up x m
          · rw [List.mem_singleton.mp m]; omega
        rintro D2 acc H9 nD2 hD2 tp9 b9 ⟨N, rfl, nl, up⟩
        have l1t' := (tp7.same (Same.refl _))
        walk_at "rd"
        refine Rd.cat (b9 _ _ l1t (b8 _ _ l1t gl1)) hD2 (by rw [natV_len, sizeLine_eq, List.length_singleton]; omega) (Rd.new fun u1 H10 nu1 gu1 s10 => ?_)
        walk_at "rd"
        refine Rd.lenStr zl ?_
        walk_at "rd"
        refine ⟨Nat.le_of_ble_eq_true rfl, Rd.new fun u2 H11 nu2 gu2 s11 => ?_⟩
        refine Rd.cat (s11 _ _ gu1) gu2 (by rw [List.length_append, natV_len, sizeLine_eq, List.length_singleton, List.length_singleton]; omega) (Rd.new fun u3 H12 nu3 gu3 s12 => ?_)
        have er : [V.int 0] ++ natV N ++ [V.int ((z.length : Nat) : Int)] = natV ((0 :: N) ++ [z.length]) := by
          unfold natV
          rw [List.map_append, List.map_append]
          rfl
        rw [er] at gu3
        walk_at "rd"
        refine Rd.tupOf (.of gu3) (Rd.new fun u4 H13 nu4 gu4 s13 => ?_)
        have s93 := ((s10.trans s11).trans s12).trans s13
        have b79 := b8.trans b9
        walk_at "rd"
        refine ⟨u4, _, rfl, gu4, by rw [List.length_append, List.length_cons]; omega, by rw [List.length_append, List.length_cons, List.length_singleton]; omega, fun x m => ?_, tp9.same s93, s93 _ _ (b79 _ _ lat (s7 _ _ gla6)), ((hB6.same s7).but tp7 b79).same s93, (((b06.same s7).trans b79).same s93)⟩
        rcases List.mem_append.mp m with m | m
        · rcases List.mem_cons.mp m with e | m
          · omega
          · exact up x m
        · rw [List.mem_singleton.mp m]
          exact Nat.le_refl _
      · walk_at "go"
        have zx := Mp.gr_zig gr
        have zf := zig_few8 zx
        have z2 := zx.len (by omega)
        exact ⟨q, N, rfl, gq, by omega, by omega, zf.1, tp6, gla6, hB6, b06⟩
    clear hz6 tp6 gla6 hB6 b06
    rintro _ H7 ⟨q, N, rfl, gq7, n0, n50, up, tp7, gla7, hB7, b07⟩
    have u100 : ∀ x ∈ N, x ≤ 100 := fun x m => by have := up x m; omega
    have qt : q ≠ t := by
      obtain ⟨_, _, _, _, _, _, g2, _⟩ := tp7
      exact ne_of gq7 g2 fun e => nomatch e
    walk_at "rd"
    refine Rd.forS ?_
    walk_at "rd"
    refine ⟨by decide, by decide, ?_⟩
    refine for_range (lo := 0) (n := 6) (fun i σ H' => ∃ (o6 o7 o8 : Option V), σ = [some (.ref a), some (.ref t), some (.str z), some (.ref la), some (.ref bk), some (.ref q), o6, o7, o8, none, none, none, none] ∧ H' q = some (.tup (natV N)) ∧ Tape H' t c ∧ H' la = some (.lst (ws.map V.str)) ∧ BookAt T.C_Book H' bk ws ∧ Rd.But t H H')
      ⟨_, _, _, rfl, gq7, tp7, gla7, hB7, b07⟩ ?_ ?_
    · clear gq7 tp7 gla7 hB7 b07
      rintro i _ H8 hi ⟨o6, o7, o8, rfl, gq8, tp8, gla8, hB8, b08⟩
      walk_at "rd"
      refine Rd.cut (fun σ H' => ∃ (x : V), σ = [some (.ref a), some (.ref t), some (.str z), some (.ref la), some (.ref bk), some (.ref q), some (.int (0 + (i : Int))), some x, o8, none, none, none, none] ∧ RowZ H' x ∧ H' q = some (.tup (natV N)) ∧ Tape H' t c ∧ H' la = some (.lst (ws.map V.str)) ∧ BookAt T.C_Book H' bk ws ∧ Rd.But t H H') ?_ ?_
      · walk_at "rd"
        refine ite2 (fun e => ?_) (fun e => ?_)
        · walk_at "rd"
          refine ⟨t, c, q, la, ws, z, N, rfl, tp8, by omega, by omega, gq8, n0, n50, up, gla8, w1, fun x H9 hx tp9 b9 => ?_⟩
          walk_at "rd"
          exact ⟨x, rfl, hx, b9 _ _ qt gq8, tp9, b9 _ _ lat gla8, hB8.but tp8 b9, b08.trans b9⟩
        · walk_at "rd"
          exact ⟨_, rfl, nat_row gq8 (by omega) u100, gq8, tp8, gla8, hB8, b08⟩
      clear gq8 tp8 gla8 hB8 b08
      rintro _ H9 ⟨x, rfl, hx, gq9, tp9, gla9, hB9, b09⟩
      obtain ⟨q2, d, rfl, hd, sd⟩ := hx.data (K := K)
      obtain ⟨o, ho⟩ := hx.cut (K := K)
      walk_at "rd"
      refine reprR hd sd ?_
      walk_at "rd"
      refine ⟨bk, _, ws, z, o, rfl, hB9, W, z40, ho, fun H10 s10 => ?_⟩
      walk_at "rd"
      refine ⟨la, _, ws, z, o, rfl, .of (s10 _ _ gla9), w1, by omega, by omega, ho.same s10, fun H11 s11 => ?_⟩
      have s911 := s10.trans s11
      walk_at "rd"
      refine flagR ?_
      rw [show (zigB ws z o == zigB ws z o) = true from beq_self_eq_true _]
      walk_at "rd"
      refine reprR (Rs.Dp.same s911 _ _ hd) sd ?_
      walk_at "rd"
      refine Rd.yes rfl ?_
      walk_at "rd"
      exact ⟨_, _, _, rfl, s911 _ _ gq9, tp9.same s911, s911 _ _ gla9, hB9.same s911, b09.same s911⟩
    · clear gq7 tp7 gla7 hB7 b07
      rintro _ H8 ⟨o6, o7, o8, rfl, gq8, tp8, gla8, hB8, b08⟩
      walk_at "rd"
      refine Rd.lenStr zl ?_
      walk_at "rd"
      refine pickR tp8 (by omega) (by omega) fun r H9 r0 r1 tp9 b9 => ?_
      have gq9 := b9 _ _ qt gq8
      have gla9 := b9 _ _ lat gla8
      have hB9 := hB8.but tp8 b9
      have b09 := b08.trans b9
      clear gq8 gla8 hB8 b08 tp8
      walk_at "rd"
      refine Rd.slS zl ?_
      have cl := Lt.cut_to (z := z) (b := 1 + r) (by omega)
      have hz2 : Lt.Wd 40 (cutS z none (some (1 + r))) := ⟨hz.ok.cut _ _, by omega, by omega⟩
      generalize cutS z none (some (1 + r)) = y at hz2
      have y0 := hz2.l0
      have y1 := hz2.l1
      walk_at "rd"
      refine ⟨bk, _, ws, y, _, rfl, hB9, W, hz2, .nat gq9 (by omega), fun H10 s10 => ?_⟩
      walk_at "rd"
      refine ⟨la, _, ws, y, _, rfl, .of (s10 _ _ gla9), w1, by omega, by omega, .nat (s10 _ _ gq9) (by omega), fun H11 s11 => ?_⟩
      walk_at "rd"
      refine flagR ?_
      rw [show ∀ b : Bool, (b == b) = true from fun b => beq_self_eq_true b]
      walk_at "rd"
      have s911 := s10.trans s11
      refine Rd.slL (.of (s911 _ _ gla9)) (Rd.new fun lf H12 nlf glf s12 => ?_)
      have ef : cutV (ws.map V.str) (some 1) none = (ws.drop 1).map V.str := by
        rw [cut_from8 (by decide) (by omega), List.map_drop]
        rfl
      rw [ef] at glf
      have W2 : Watches (ws.drop 1) := ⟨nd.sublist (List.drop_sublist _ _), by rw [List.length_drop]; omega, fun y m => hw y (List.mem_of_mem_drop m)⟩
      walk_at "rd"
      refine mkB (.inl (.of glf)) W2 fun bf H13 hBf s13 => ?_
      have s93 := (s911.trans s12).trans s13
      walk_at "rd"
      refine ⟨bf, _, ws.drop 1, z, _, rfl, hBf, W2, z40, .nat (s93 _ _ gq9) (by omega), fun H14 s14 => ?_⟩
      walk_at "rd"
      have s94 := s93.trans s14
      refine ⟨lf, _, ws.drop 1, z, _, rfl, .of ((s13.trans s14) _ _ glf), fun x m => w1 x (List.mem_of_mem_drop m), by omega, by omega, .nat (s94 _ _ gq9) (by omega), fun H15 s15 => ?_⟩
      walk_at "rd"
      refine flagR ?_
      rw [show ∀ b : Bool, (b == b) = true from fun b => beq_self_eq_true b]
      have s95 := s94.trans s15
      have gq15 := s95 _ _ gq9
      have hB15 := hB9.same s95
      have b15 := b09.same s95
      clear s10 s11 s12 s13 s14 s15 s911 s93 s94 s95 gq9 gla9 hB9 b09 tp9 b9
      walk_at "rd"
      refine ⟨Nat.zero_le _, Rd.new fun p1 G1 n1 g1 s1 => ?_⟩
      walk_at "rd"
      refine ⟨Nat.le_of_ble_eq_true rfl, Rd.new fun p2 G2 n2 g2 s2 => ?_⟩
      walk_at "rd"
      refine Rd.lenStr zl ?_
      walk_at "rd"
      refine ⟨Nat.le_of_ble_eq_true rfl, Rd.new fun p3 G3 n3 g3 s3 => ?_⟩
      walk_at "rd"
      refine Rx.disp fun p4 G4 n4 g4 s4' => Rx.pair ?_
      walk_at "rd"
      refine Rx.pair0 ⟨g4, [(.inl 0, .int 1)], rfl, by decide, fun G5 g5 off5 => ?_⟩
      have s5 := Rx.same_off2 s4' n4 off5
      walk_at "rd"
      refine Rd.lenStr zl ?_
      walk_at "rd"
      refine ⟨Nat.le_of_ble_eq_true rfl, Rd.new fun p6 G6 n6 g6 s6' => ?_⟩
      walk_at "rd"
      refine ⟨Nat.le_of_ble_eq_true rfl, Rd.new fun p7 G7 n7 g7 s7 => ?_⟩
      walk_at "rd"
      refine Rd.lenStr zl ?_
      walk_at "rd"
      refine ⟨Nat.le_of_ble_eq_true rfl, Rd.new fun p8 G8 n8 g8 s8 => ?_⟩
      walk_at "rd"
      refine ⟨Nat.le_of_ble_eq_true rfl, Rd.new fun p9 G9 n9 g9 s9 => ?_⟩
      walk_at "rd"
      refine ⟨Nat.le_of_ble_eq_true rfl, Rd.new fun L9 G10 n10 g10 s10 => ?_⟩
      have t89 := s9.trans s10
      have t79 := s8.trans t89
      have t69 := s7.trans t79
      have t59 := s6'.trans t69
      have t39 := s5.trans t59
      have t29 := s3.trans t39
      have t19 := s2.trans t29
      have t09 := s1.trans t19
      have gq10 := t09 _ _ gq15
      have hB10 := hB15.same t09
      have all : ∀ x ∈ [V.non, .bl true, .int 0, .str "", .ref p1, .ref p2, .ref p3, .ref p4, .ref p6, .ref p7, .ref p9, .ref bk, .str z], ∃ o, CutOf K G10 x o ∧ zigB ws z o = false := by
        intro x m
        simp only [List.mem_cons, List.not_mem_nil, or_false] at m
        rcases m with rfl | rfl | rfl | rfl | rfl | rfl | rfl | rfl | rfl | rfl | rfl | rfl | rfl
        · exact ⟨_, .odd .non rfl, zigB_none⟩
        · exact ⟨_, .odd (.bl true) rfl, zigB_none⟩
        · exact ⟨_, .odd (.int 0) rfl, zigB_none⟩
        · exact ⟨_, .odd (.str (Nat.le_of_ble_eq_true rfl)) rfl, zigB_none⟩
        · exact ⟨_, .nums (P := []) (t19 _ _ g1) (Nat.zero_le _), zigB_one (by omega) (by decide)⟩
        · exact ⟨_, .nums (P := [0]) (t29 _ _ g2) (Nat.le_of_ble_eq_true rfl), zigB_one (by omega) (Nat.lt_succ_self 1)⟩
        · exact ⟨_, .nums (P := [((z.length : Nat) : Int)]) (t39 _ _ g3) (Nat.le_of_ble_eq_true rfl), zigB_one (by omega) (Nat.lt_succ_self 1)⟩
        · exact ⟨_, .odd (.dct (t59 _ _ g5)) rfl, zigB_none⟩
        · exact ⟨_, .odd (.lst (t69 _ _ g6) (Nat.le_of_ble_eq_true rfl)) rfl, zigB_none⟩
        · exact ⟨_, .mix (j := 0) (y := .ref q) (t79 _ _ g7) (Nat.le_of_ble_eq_true rfl) (fun y m => by rw [List.mem_singleton.mp m]; exact ⟨_, .tup gq10 (by rw [natV_len]; omega)⟩) rfl (.tup gq10 (by rw [natV_len]; omega)) rfl, zigB_none⟩
        · exact ⟨_, .mix (j := 0) (y := .ref p8) (s10 _ _ g9) (Nat.le_of_ble_eq_true rfl) (fun y m => by rw [List.mem_singleton.mp m]; exact ⟨_, .tup (t89 _ _ g8) (Nat.le_of_ble_eq_true rfl)⟩) rfl (.tup (t89 _ _ g8) (Nat.le_of_ble_eq_true rfl)) rfl, zigB_none⟩
        · obtain ⟨dx, u, hb, hu⟩ := hB10
          exact ⟨_, .own hb T.cl_Book T.ty_Book T.kt_Book, zigB_none⟩
        · exact ⟨_, .odd (.str (by omega)) rfl, zigB_none⟩
      walk_at "rd"
      refine ⟨⟨_, .of g10⟩, Rd.lcS walk_list (fun _ s => .of (s _ _ g10)) (fun D i acc _ => acc = (List.replicate i false).map V.bl) (fun _ _ _ _ _ => rfl) ?_ ?_⟩
      · rintro D i x G _ acc nD hi hD sm rfl ⟨rfl, hx⟩
        have hi : i < 13 := hi
        obtain ⟨o, ho, zo⟩ := all x (List.mem_of_getElem? hx)
        walk_at "rd"
        refine ⟨rfl, ?_⟩
        walk_at "rd"
        refine ⟨bk, x, ws, z, o, rfl, hB10.same sm, W, z40, ho.same sm, fun G2 s2 => ?_⟩
        rw [zo]
        refine Rd.lcPush (s2 _ _ hD) nD (sm.trans s2) (by rw [List.length_map, List.length_replicate, sizeLine_eq]; omega) fun G5 _ _ => ?_
        rw [List.replicate_succ', List.map_append]
        rfl
      · rintro D acc G11 nD hD sm rfl
        walk_at "rd"
        refine ⟨Nat.le_of_ble_eq_true rfl, Rd.new fun l1 G12 nl1 gl1 s12 => ?_⟩
        walk_at "rd"
        refine Rd.len (.inl (.of ((sm.trans s12) _ _ g10))) ?_
        walk_at "rd"
        refine Rd.rep (k := 13) gl1 (by decide) (by decide) (by rw [sizeLine_eq]; decide) (Rd.new fun l2 G13 nl2 gl2 s13 => ?_)
        have sh : SeqAt.shaped (.list ((List.replicate 13 false).map PyData.bool)) = true := by decide
        refine ⟨.list ((List.replicate 13 false).map PyData.bool), .list ((List.replicate 13 false).map PyData.bool), .lst (.of ((s12.trans s13) _ _ hD)) (dp_bls 13), .lst (.of gl2) (dp_bls 13), sh, sh, ?_⟩
        rw [show PyData.eqv (.list ((List.replicate 13 false).map PyData.bool)) (.list ((List.replicate 13 false).map PyData.bool)) = true from eqv_bls 13]
        have bf := ((b15.same t09).same sm).same (s12.trans s13)
        exact k _ fun b o e => bf b o (ne_of_none e nt) e
theorem ok_l_second (T : Txt K mg) : Rg.FnG P w K mg base CX0 6 T.f_l_second T.fd_l_second ["_law_script"] (sp_l_second K T.C_Book) := by
  refine Rg.okG T.F_l_second sc_l_second (fun vs H Q E h => ?_) (fun cdv A outer s H vs Q E gd hr h => ?_)
  · obtain ⟨a, ns, rfl, _⟩ := h
    rfl
  · obtain ⟨a, ns, rfl, ha, _, k⟩ := h
    refine ⟨_, (pss_cons (ps_set (i := 1) sc_l_second.nd rfl (.inl rfl) (pe_call (ok_l_tape T) (hr.mono (by decide)) rfl T.g_l_tape T.F_l_tape.kp T.b_l_tape .nil pass0 (pa_cons (pv 0) pa_nil)))
  (pss_cons (ps_set (i := 2) sc_l_second.nd rfl (.inl rfl) (pe_call (ok_l_word T) (hr.mono (by decide)) rfl T.g_l_word T.F_l_word.kp T.b_l_word .nil pass0 (pa_cons (pv 1) (pa_cons pe_int pa_nil))))
  (pss_cons (ps_set (i := 3) sc_l_second.nd rfl (.inl rfl) (pe_call (ok_l_watches T) (hr.mono (by decide)) rfl T.g_l_watches T.F_l_watches.kp T.b_l_watches .nil pass0 (pa_cons (pv 1) (pa_cons (pv 2) (pa_cons (pe_call (ok_l_pick T) (hr.mono (by decide)) rfl T.g_l_pick T.F_l_pick.kp T.b_l_pick .nil pass0 (pa_cons (pv 1) (pa_cons pe_int pa_nil))) (pa_cons pe_int pa_nil))))))
  (pss_cons (ps_set (i := 4) sc_l_second.nd rfl (.inl rfl) (pe_make T.M_Book (ok_Book_init T) (hr.mono (by decide)) rfl T.c_Book T.b_Book_init .nil pass0 (pa_cons (pv 3) pa_nil)))
  (pss_cons (ps_set (i := 5) sc_l_second.nd rfl (.inl rfl) (pe_call (ok_l_flood T) (hr.mono (by decide)) rfl T.g_l_flood T.F_l_flood.kp T.b_l_flood .nil pass0 (pa_cons (pv 3) (pa_cons (pv 2) (pa_cons pe_int pa_nil)))))
  (pss_cons (ps_set (i := 6) sc_l_second.nd rfl (.inr rfl) (pe_call (ok_l_flood T) (hr.mono (by decide)) rfl T.g_l_flood T.F_l_flood.kp T.b_l_flood .nil pass0 (pa_cons (pv 3) (pa_cons (pv 2) (pa_cons (pe_callB (id := "len") (r := _) Rd.c_lenS (by rfl) T.n_len (by decide +kernel) (pa_cons (pv 2) pa_nil)) pa_nil)))))
  (pss_cons (ps_set (i := 7) sc_l_second.nd rfl (.inl rfl) (pe_tup (pa_cons (pe_callTy (T := "tuple") (r := Rd.nTupOf K) Rd.c_tupOf (by rfl) T.n_tuple (by decide +kernel) (pa_cons (pv 5) pa_nil)) (pa_cons (pe_callTy (T := "tuple") (r := Rd.nTupOf K) Rd.c_tupOf (by rfl) T.n_tuple (by decide +kernel) (pa_cons (pe_lc (own := [("_law_spot", 12)]) (g := gName 12)  rfl sc_l_second.nd (pi_range1 rfl T.n_range (pa_cons (pe_op op_add (pe_callB (id := "len") (r := _) Rd.c_lenS (by rfl) T.n_len (by decide +kernel) (pa_cons (pv 2) pa_nil)) pe_int) pa_nil)) (blkOk_by (own := [("_law_spot", 12)]) (N := ["_law_script", "_law_tape_here", "_law_word_here", "_law_watches_here", "_law_book", "_law_first_here", "_law_last", "_law_due", "_law_turn", "_law_lot_here", "_law_thing", "_law_kept", "_law_spot"]) (sc := defScope s_l_second) (by decide +kernel)) (fun _ _ _ _ _ => (pg_name (i := 12) sc_l_second.nd rfl (.inl rfl))) (fun _ _ _ _ _ => pts_one (pt_cmpR (r := rIn K true) op_notIn_seq (pv 12) (pv 6) (by rfl))) (fun _ _ _ _ _ => (pv 12))) pa_nil)) pa_nil))))
  (C8.pss_cut (ps_if (pt_cmpR (r := rIn K false) op_in_seq (pe_callB (id := "len") (r := _) Rd.c_lenS (by rfl) T.n_len (by decide +kernel) (pa_cons (pv 2) pa_nil)) (pv 5) (by rfl))
  (pss_one (ps_set (i := 7) sc_l_second.nd rfl (.inl rfl) (pe_tup (pa_cons pe_non (pa_cons pe_non pa_nil)))))
  pss_nil)
  (pss_cons (ps_if (pt_cmpR (r := rNeD K) (op_neD hr.units) (pe_tup (pa_cons (pe_call (ok_cut T) (hr.mono (by decide)) rfl T.g_cut T.F_cut.kp T.b_cut .nil pass0 (pa_cons (pv 4) (pa_cons (pv 2) pa_nil))) (pa_cons (pe_call (ok_greatest_cut T) (hr.mono (by decide)) rfl T.g_greatest_cut T.F_greatest_cut.kp T.b_greatest_cut .nil pass0 (pa_cons (pv 4) (pa_cons (pv 2) pa_nil))) pa_nil))) (pv 7) (nomark _))
  (pss_one (ps_ret pe_bl))
  pss_nil)
  (pss_cons (ps_for PassesOwn.never rfl (pi_range1 rfl T.n_range (pa_cons pe_int pa_nil)) (pg_name (i := 8) sc_l_second.nd rfl (.inl rfl))
  (pss_cons (ps_set (i := 9) sc_l_second.nd rfl (.inl rfl) (pe_call (ok_l_lot T) (hr.mono (by decide)) rfl T.g_l_lot T.F_l_lot.kp T.b_l_lot .nil pass0 (pa_cons (pv 1) (pa_cons (pv 3) (pa_cons (pv 2) pa_nil)))))
  (pss_cons (ps_set (i := 10) sc_l_second.nd rfl (.inl rfl) (pv 9))
  (C8.pss_cut (ps_if (pt_cmpR op_gt (pv 8) pe_int (nomark _))
  (pss_one (ps_set (i := 10) sc_l_second.nd rfl (.inl rfl) (pe_call (ok_l_bent_too T) (hr.mono (by decide)) rfl T.g_l_bent_too T.F_l_bent_too.kp T.b_l_bent_too .nil pass0 (pa_cons (pv 1) (pa_cons (pv 2) (pa_cons (pv 9) pa_nil))))))
  pss_nil)
  (pss_cons (ps_set (i := 11) sc_l_second.nd rfl (.inl rfl) (pe_callB (id := "repr") (r := Rg.rRepr K) (Rg.cr_repr gd (Rg.u101 hr)) (by rfl) T.n_repr (by decide +kernel) (pa_cons (pv 10) pa_nil)))
  (pss_cons (ps_if (PW.pt (pw_or (pt_not (pt_val (pe_call (ok_l_flag T) (hr.mono (by decide)) rfl T.g_l_flag T.F_l_flag.kp T.b_l_flag .nil pass0 (pa_cons (pe_call (ok_is_cut T) (hr.mono (by decide)) rfl T.g_is_cut T.F_is_cut.kp T.b_is_cut .nil pass0 (pa_cons (pv 4) (pa_cons (pv 2) (pa_cons (pv 10) pa_nil)))) (pa_cons (pe_call (ok_l_is_cut T) (hr.mono (by decide)) rfl T.g_l_is_cut T.F_l_is_cut.kp T.b_l_is_cut .nil pass0 (pa_cons (pv 3) (pa_cons (pv 2) (pa_cons (pv 10) pa_nil)))) pa_nil))))) (pw_or1 (pt_cmpR op_ne (pe_callB (id := "repr") (r := Rg.rRepr K) (Rg.cr_repr gd (Rg.u101 hr)) (by rfl) T.n_repr (by decide +kernel) (pa_cons (pv 10) pa_nil)) (pv 11) (nomark _)))))
  (pss_one (ps_ret pe_bl))
  pss_nil)
  (pss_one (ps_if (pt_not (pt_val (pe_call (ok_l_flag T) (hr.mono (by decide)) rfl T.g_l_flag T.F_l_flag.kp T.b_l_flag .nil pass0 (pa_cons (pe_call (ok_is_cut T) (hr.mono (by decide)) rfl T.g_is_cut T.F_is_cut.kp T.b_is_cut .nil pass0 (pa_cons (pv 4) (pa_cons (pv 2) (pa_cons (pv 9) pa_nil)))) (pa_cons (pe_and (pe_cmpR (r := rIn K false) op_in_seq pe_int (pv 9) (by rfl)) (pe_one (pe_cmpR (r := rIn K true) op_notIn_seq (pe_callB (id := "len") (r := _) Rd.c_lenS (by rfl) T.n_len (by decide +kernel) (pa_cons (pv 2) pa_nil)) (pv 9) (by rfl)))) pa_nil)))))
  (pss_one (ps_ret pe_bl))
  pss_nil))))))))
  (pss_cons (ps_for PassesOwn.never rfl (pi_list (pe_lst (pa_cons pe_non (pa_cons pe_bl (pa_cons pe_int (pa_cons pe_str (pa_cons (pe_tup pa_nil) (pa_cons (pe_tup (pa_cons pe_non pa_nil)) (pa_cons (pe_lst (pa_cons pe_int pa_nil)) (pa_cons (pe_disp (pps_cons pe_int pe_int pps_nil) rfl rfl (by simp) (by decide)) (pa_cons (pv 4) (pa_cons (pv 2) (pa_cons (pe_tup (pa_cons (pe_tup (pa_cons pe_int pa_nil)) pa_nil)) (pa_cons (pe_tup (pa_cons (pe_callB (id := "len") (r := _) Rd.c_lenS (by rfl) T.n_len (by decide +kernel) (pa_cons (pv 2) pa_nil)) pa_nil)) pa_nil)))))))))))))) (pg_name (i := 10) sc_l_second.nd rfl (.inl rfl))
  (pss_one (ps_if (pt_not (pt_val (pe_call (ok_l_flag T) (hr.mono (by decide)) rfl T.g_l_flag T.F_l_flag.kp T.b_l_flag .nil pass0 (pa_cons (pe_call (ok_is_cut T) (hr.mono (by decide)) rfl T.g_is_cut T.F_is_cut.kp T.b_is_cut .nil pass0 (pa_cons (pv 4) (pa_cons (pv 2) (pa_cons (pv 10) pa_nil)))) (pa_cons pe_bl pa_nil)))))
  (pss_one (ps_ret pe_bl))
  pss_nil)))
  (pss_one (ps_ret (pe_cmpR (r := rEqD K) (op_eqD hr.units) (pe_tup (pa_cons (pe_call (ok_cut T) (hr.mono (by decide)) rfl T.g_cut T.F_cut.kp T.b_cut .nil pass0 (pa_cons (pv 4) (pa_cons (pv 2) pa_nil))) (pa_cons (pe_call (ok_greatest_cut T) (hr.mono (by decide)) rfl T.g_greatest_cut T.F_greatest_cut.kp T.b_greatest_cut .nil pass0 (pa_cons (pv 4) (pa_cons (pv 2) pa_nil))) pa_nil))) (pv 7) (nomark _))))))))))))))), ?_⟩
    walk_at "rd"
    refine ⟨a, ns, rfl, ha, fun t c H1 tp1 s1 nt nc => ?_⟩
    walk_at "rd"
    refine ⟨t, c, 20, rfl, tp1, by decide, by decide, fun z H2 hz tp2 b2 => ?_⟩
    have z0 := hz.l0
    have z1 := hz.l1
    have zl : z.length ≤ sizeLine := by rw [sizeLine_eq]; omega
    have z40 : Lt.Wd 40 z := hz.mono (by decide)
    have le : ∀ {ws : List Str} (i j : Nat), Mw.Adj ws z i j → j ≤ z.length := fun i j h => h.le.2
    walk_at "rd"
    refine pickR tp2 (by decide) (by decide) fun m H3 m0 m1 tp3 b3 => ?_
    walk_at "rd"
    refine ⟨t, c, z, _, 12, rfl, tp3, hz.mono (by decide), by omega, by omega, by decide, by decide, fun la ws H4 tp4 b4 nla gla nd wl hw _ => ?_⟩
    have lat : la ≠ t := (tp3.new nla).1
    have W : Watches ws := ⟨nd, by omega, hw⟩
    have w1 : ∀ W ∈ ws, 1 ≤ W.length := fun x m => (hw x m).l0
    walk_at "rd"
    refine mkB (.inl (.of gla)) W fun bk H5 hB5 s5 => ?_
    walk_at "rd"
    refine ⟨la, ws, z, 0, rfl, .of (s5 _ _ gla), w1, by omega, by omega, fun f0 H6 s6 nf0 gf0 => ?_⟩
    walk_at "rd"
    refine Rd.lenStr zl ?_
    walk_at "rd"
    refine ⟨la, ws, z, z.length, rfl, .of (s6 _ _ (s5 _ _ gla)), w1, by omega, by omega, fun fn H7 s7 nfn gfn => ?_⟩
    have tp7 := ((tp4.same s5).same s6).same s7
    have gla7 := s7 _ _ (s6 _ _ (s5 _ _ gla))
    have hB7 := (hB5.same s6).same s7
    have gf7 := s7 _ _ gf0
    clear tp2 tp3 tp4 b2 b3 b4 nla gla s5 hB5 ha s1 nt nc tp1 s6 s7 gf0
    walk_at "rd"
    refine Rd.tupOf (.of gf7) (Rd.new fun q1 H8 nq1 gq1 s8 => ?_)
    walk_at "rd"
    refine Rd.lenStr zl ?_
    walk_at "rd"
    refine ⟨by omega, by omega, ?_⟩
    have gfn8 := s8 _ _ gfn
    refine Rd.lcS walk_range (fun _ _ => trivial) (fun D i acc _ => acc = natV ((List.range i).filter fun x => !decide (x ∈ Mc.cls (Mw.Adj ws z) z.length z.length))) (fun _ _ _ _ _ => rfl) ?_ ?_
    · rintro D i x G _ acc nD hi hD sm rfl ⟨rfl, rfl⟩
      have fl := List.length_filter_le (fun x => !decide (x ∈ Mc.cls (Mw.Adj ws z) z.length z.length)) (List.range i)
      rw [List.length_range] at fl
      walk_at "rd"
      refine ⟨rfl, ?_⟩
      walk_at "rd"
      dsimp only
      rw [Int.zero_add]
      refine Rd.inIntsN (ws := (Mc.cls (Mw.Adj ws z) z.length z.length).map fun i : Nat => (i : Int)) (.inl (.of (sm _ _ gfn8))) ?_
      rw [nat_dec]
      walk_at "rd"
      have st : (List.range (i + 1)).filter (fun x => !decide (x ∈ Mc.cls (Mw.Adj ws z) z.length z.length)) = (List.range i).filter (fun x => !decide (x ∈ Mc.cls (Mw.Adj ws z) z.length z.length)) ++ if i ∈ Mc.cls (Mw.Adj ws z) z.length z.length then [] else [i] := by
        rw [List.range_succ, List.filter_append]
        congr 1
        by_cases c : i ∈ Mc.cls (Mw.Adj ws z) z.length z.length
        · rw [if_pos c, List.filter_cons_of_neg (by rw [decide_eq_true c]; exact Bool.false_ne_true)]
          rfl
        · rw [if_neg c, List.filter_cons_of_pos (by rw [decide_eq_false c]; rfl)]
          rfl
      by_cases c : i ∈ Mc.cls (Mw.Adj ws z) z.length z.length
      · refine Rd.yes c ?_
        walk_at "rd"
        refine ⟨_, hD, sm, ?_⟩
        dsimp only
        rw [st, if_pos c, List.append_nil]
      · refine Rd.no c ?_
        walk_at "rd"
        refine Rd.lcPush hD nD sm (by rw [natV_len, sizeLine_eq]; omega) fun G5 _ _ => ?_
        rw [st, if_neg c, ← natV_app]
        rfl
    rintro D acc H9 nD hD s9 rfl
    have em : (List.range (((z.length : Nat) : Int) + 1).toNat).filter (fun x => !decide (x ∈ Mc.cls (Mw.Adj ws z) z.length z.length)) = cutG (Mw.Adj ws z) z.length := by
      rw [show (((z.length : Nat) : Int) + 1).toNat = z.length + 1 by omega, List.range_succ, List.filter_append, List.filter_cons_of_neg (by rw [decide_eq_true (Mc.mem_cls.mpr ⟨Nat.le_refl _, .refl⟩)]; exact Bool.false_ne_true), List.filter_nil, List.append_nil]
      unfold cutG
      refine List.filter_congr fun x m => ?_
      have xl := List.mem_range.mp m
      rw [Bool.eq_iff_iff, offB_iff, Bool.not_eq_true', decide_eq_false_iff_not, Mc.mem_cls]
      exact ⟨fun h q => h ⟨by omega, q⟩, fun h q => h q.2⟩
    rw [em] at hD
    walk_at "rd"
    refine Rd.tupOf (.of hD) (Rd.new fun q2 H10 nq2 gq2 s10 => ?_)
    walk_at "rd"
    refine ⟨Nat.le_of_ble_eq_true rfl, Rd.new fun q3 H11 nq3 gq3 s11 => ?_⟩
    have s81 := (s9.trans s10).trans s11
    have s71 := s8.trans s81
    have gq1' := s81 _ _ gq1
    have gq2' := s11 _ _ gq2
    have tp11 := tp7.same s71
    have gla11 := s71 _ _ gla7
    have hB11 := hB7.same s71
    have gf11 := s71 _ _ gf7
    clear tp7 gla7 hB7 gf7 gfn gfn8 s8 s9 s10 s81 s71 gq1 gq2 hD em nD nq1 nq2
    walk_at "rd"
    refine Rd.cut (fun σ H' => ∃ (p : Addr) (v1 v2 : V), σ = [some (.ref a), some (.ref t), some (.str z), some (.ref la), some (.ref bk), some (.ref f0), some (.ref fn), some (.ref p), none, none, none, none, none] ∧ H' p = some (.tup [v1, v2]) ∧ Due2 H' ws z v1 v2 ∧ Same H11 H') ?_ ?_
    · walk_at "rd"
      refine Rd.lenStr zl ?_
      walk_at "rd"
      refine Rd.inIntsY (ws := (Mc.cls (Mw.Adj ws z) z.length 0).map fun i : Nat => (i : Int)) (.inl (.of gf11)) ?_
      rw [nat_dec]
      have tc : z.length ∈ Mc.cls (Mw.Adj ws z) z.length 0 ↔ Mw.Told ws z := by
        rw [Mc.mem_cls]
        exact ⟨fun h => h.2, fun h => ⟨Nat.le_refl _, h⟩⟩
      by_cases c : z.length ∈ Mc.cls (Mw.Adj ws z) z.length 0
      · rw [decide_eq_true c]
        walk_at "rd"
        refine ⟨Nat.le_of_ble_eq_true rfl, Rd.new fun q4 H12 nq4 gq4 s12 => ?_⟩
        walk_at "rd"
        exact ⟨q4, _, _, rfl, gq4, .inl ⟨tc.mp c, rfl, rfl⟩, s12⟩
      · rw [decide_eq_false c]
        walk_at "rd"
        exact ⟨q3, _, _, rfl, gq3, .inr ⟨fun h => c (tc.mpr h), q1, q2, rfl, rfl, gq1', gq2'⟩, Same.refl _⟩
    clear gq1' gq2' gq3 gf11
    rintro _ H12 ⟨p, v1, v2, rfl, gp, hd, s12⟩
    have tp12 := tp11.same s12
    have gla12 := s12 _ _ gla11
    have hB12 := hB11.same s12
    clear tp11 gla11 hB11 s12 s11 nq3
    walk_at "rd"
    refine ⟨bk, ws, z, rfl, hB12, W, z40, fun r1 H13 s13 a1 => ?_⟩
    walk_at "rd"
    refine ⟨bk, ws, z, rfl, hB12.same s13, W, z40, fun r2 H14 s14 a2 => ?_⟩
    have d2 := Ans.due s14 a1 a2
    walk_at "rd"
    refine ⟨Nat.le_of_ble_eq_true rfl, Rd.new fun u H15 nu gu s15 => ?_⟩
    have s25 := (s13.trans s14).trans s15
    have hd15 := hd.keep fun b xs g => s25 _ _ g
    have gp15 := s25 _ _ gp
    walk_at "rd"
    refine neData (due_dp gu (d2.keep fun b xs g => s15 _ _ g)) (due_dp gp15 hd15) (due_sh ws z) ?_
    walk_at "rd"
    have tp15 := tp12.same s25
    have gla15 := s25 _ _ gla12
    have hB15 := hB12.same s25
    clear tp12 gla12 hB12 s13 s14 s15 s25 a1 a2 d2 gu nu hd gp
    refine Rd.forS ?_
    walk_at "rd"
    refine ⟨by decide, by decide, ?_⟩
    refine for_range (lo := 0) (n := 6) (fun i σ H' => ∃ (o8 o9 o10 o11 : Option V), σ = [some (.ref a), some (.ref t), some (.str z), some (.ref la), some (.ref bk), some (.ref f0), some (.ref fn), some (.ref p), o8, o9, o10, o11, none] ∧ H' p = some (.tup [v1, v2]) ∧ Due2 H' ws z v1 v2 ∧ Tape H' t c ∧ H' la = some (.lst (ws.map V.str)) ∧ BookAt T.C_Book H' bk ws)
      ⟨_, _, _, _, rfl, gp15, hd15, tp15, gla15, hB15⟩ ?_ ?_
    · clear gp15 hd15 tp15 gla15 hB15
      rintro i _ H16 hi ⟨o8, o9, o10, o11, rfl, gp16, hd16, tp16, gla16, hB16⟩
      walk_at "rd"
      refine ⟨t, c, la, ws, z, rfl, tp16, gla16, w1, by omega, fun q N H17 gq asc up sh tp17 b17 => ?_⟩
      have kT := tup_tape tp16 b17
      have gp17 := kT _ _ gp16
      have hd17 := hd16.keep kT
      have gla17 := b17 _ _ lat gla16
      have hB17 := hB16.but tp16 b17
      have n50 : N.length ≤ 50 := by
        have := Mw.nodup_le N (List.range (z.length + 1)) (asc.imp fun h => by omega) fun x m => List.mem_range.mpr (by have := up x m; omega)
        rw [List.length_range] at this
        omega
      clear kT gp16 hd16 gla16 hB16 tp16 b17
      walk_at "rd"
      refine Rd.cut (fun σ H' => ∃ (x : V), σ = [some (.ref a), some (.ref t), some (.str z), some (.ref la), some (.ref bk), some (.ref f0), some (.ref fn), some (.ref p), some (.int (0 + (i : Int))), some (.ref q), some x, o11, none] ∧ RowZ H' x ∧ H' q = some (.tup (natV N)) ∧ H' p = some (.tup [v1, v2]) ∧ Due2 H' ws z v1 v2 ∧ Tape H' t c ∧ H' la = some (.lst (ws.map V.str)) ∧ BookAt T.C_Book H' bk ws) ?_ ?_
      · walk_at "rd"
        refine ite2 (fun e => ?_) (fun e => ?_)
        · walk_at "rd"
          refine ⟨t, c, q, z, N, rfl, tp17, by omega, gq, n50, up, fun x H18 hx tp18 b18 => ?_⟩
          walk_at "rd"
          have kT := tup_tape tp17 b18
          exact ⟨x, rfl, hx, kT _ _ gq, kT _ _ gp17, hd17.keep kT, tp18, b18 _ _ lat gla17, hB17.but tp17 b18⟩
        · walk_at "rd"
          exact ⟨_, rfl, nat_row gq (by omega) fun x m => by have := up x m; omega, gq, gp17, hd17, tp17, gla17, hB17⟩
      clear gq gp17 hd17 tp17 gla17 hB17
      rintro _ H18 ⟨x, rfl, hx, gq18, gp18, hd18, tp18, gla18, hB18⟩
      obtain ⟨q2', d, rfl, hdd, sd⟩ := hx.data (K := K)
      obtain ⟨o, ho⟩ := hx.cut (K := K)
      walk_at "rd"
      refine reprR hdd sd ?_
      walk_at "rd"
      refine ⟨bk, _, ws, z, o, rfl, hB18, W, z40, ho, fun H19 s19 => ?_⟩
      walk_at "rd"
      refine ⟨la, _, ws, z, o, rfl, .of (s19 _ _ gla18), w1, by omega, ho.same s19, fun H20 s20 => ?_⟩
      have s82 := s19.trans s20
      walk_at "rd"
      refine flagR ?_
      rw [show (cutB ws z o == cutB ws z o) = true from beq_self_eq_true _]
      walk_at "rd"
      refine reprR (Rs.Dp.same s82 _ _ hdd) sd ?_
      walk_at "rd"
      refine Rd.yes rfl ?_
      walk_at "rd"
      refine ⟨bk, _, ws, z, _, rfl, hB18.same s82, W, z40, .nat (s82 _ _ gq18) (by omega), fun H21 s21 => ?_⟩
      have s83 := s82.trans s21
      rw [cut_lot asc up sh]
      walk_at "rd"
      refine Rd.inIntsY (ws := N.map fun i : Nat => (i : Int)) (.inr (.of (s83 _ _ gq18))) ?_
      rw [show decide ((0 : Int) ∈ N.map fun i : Nat => (i : Int)) = decide (0 ∈ N) from nat_dec (x := 0)]
      have fin : ∀ {σ' : L2.St}, σ' = [some (.ref a), some (.ref t), some (.str z), some (.ref la), some (.ref bk), some (.ref f0), some (.ref fn), some (.ref p), some (.int (0 + (i : Int))), some (.ref q), some (.ref q2'), some (.str d.shown), none] → ∃ (o8 o9 o10 o11 : Option V), σ' = [some (.ref a), some (.ref t), some (.str z), some (.ref la), some (.ref bk), some (.ref f0), some (.ref fn), some (.ref p), o8, o9, o10, o11, none] ∧ H21 p = some (.tup [v1, v2]) ∧ Due2 H21 ws z v1 v2 ∧ Tape H21 t c ∧ H21 la = some (.lst (ws.map V.str)) ∧ BookAt T.C_Book H21 bk ws := fun e => ⟨_, _, _, _, e, s83 _ _ gp18, hd18.keep fun b xs g => s83 _ _ g, tp18.same s83, s83 _ _ gla18, hB18.same s83⟩
      by_cases m0' : 0 ∈ N
      · rw [decide_eq_true m0']
        walk_at "rd"
        refine Rd.lenStr zl ?_
        walk_at "rd"
        refine Rd.inIntsN (ws := N.map fun i : Nat => (i : Int)) (.inr (.of (s83 _ _ gq18))) ?_
        rw [nat_dec]
        walk_at "rd"
        refine flagR ?_
        rw [Bool.true_and, show ∀ b : Bool, (b == b) = true from fun b => beq_self_eq_true b]
        walk_at "rd"
        exact fin rfl
      · rw [decide_eq_false m0']
        walk_at "rd"
        refine flagR ?_
        rw [Bool.false_and, show ∀ b : Bool, (b == b) = true from fun b => beq_self_eq_true b]
        walk_at "rd"
        exact fin rfl
    · clear gp15 hd15 tp15 gla15 hB15
      rintro _ H16 ⟨o8, o9, o10, o11, rfl, gp16, hd16, tp16, gla16, hB16⟩
      walk_at "rd"
      refine Rd.forS ?_
      walk_at "rd"
      refine ⟨Nat.zero_le _, Rd.new fun p1 G1 n1 g1 s1 => ?_⟩
      walk_at "rd"
      refine ⟨Nat.le_of_ble_eq_true rfl, Rd.new fun p2 G2 n2 g2 s2 => ?_⟩
      walk_at "rd"
      refine ⟨Nat.le_of_ble_eq_true rfl, Rd.new fun p3 G3 n3 g3 s3 => ?_⟩
      walk_at "rd"
      refine Rx.disp fun p4 G4 n4 g4 s4' => Rx.pair ?_
      walk_at "rd"
      refine Rx.pair0 ⟨g4, [(.inl 0, .int 1)], rfl, by decide, fun G5 g5 off5 => ?_⟩
      have s5 := Rx.same_off2 s4' n4 off5
      walk_at "rd"
      refine ⟨Nat.le_of_ble_eq_true rfl, Rd.new fun p6 G6 n6 g6 s6 => ?_⟩
      walk_at "rd"
      refine ⟨Nat.le_of_ble_eq_true rfl, Rd.new fun p7 G7 n7 g7 s7 => ?_⟩
      walk_at "rd"
      refine Rd.lenStr zl ?_
      walk_at "rd"
      refine ⟨Nat.le_of_ble_eq_true rfl, Rd.new fun p8 G8 n8 g8 s8 => ?_⟩
      walk_at "rd"
      refine ⟨Nat.le_of_ble_eq_true rfl, Rd.new fun L9 G10 n10 g10 s10 => ?_⟩
      have t88 := s8.trans s10
      have t78 := s7.trans t88
      have t68 := s6.trans t78
      have t58 := s5.trans t68
      have t38 := s3.trans t58
      have t28 := s2.trans t38
      have t08 := s1.trans t28
      have hB10 := hB16.same t08
      have gp10 := t08 _ _ gp16
      have hd10 := hd16.keep fun b xs g => t08 _ _ g
      have all : ∀ x ∈ [V.non, .bl true, .int 0, .str "", .ref p1, .ref p2, .ref p3, .ref p4, .ref bk, .str z, .ref p7, .ref p8], ∃ o, CutOf K G10 x o ∧ cutB ws z o = false := by
        intro x m
        simp only [List.mem_cons, List.not_mem_nil, or_false] at m
        rcases m with rfl | rfl | rfl | rfl | rfl | rfl | rfl | rfl | rfl | rfl | rfl | rfl
        · exact ⟨_, .odd .non rfl, cutB_none⟩
        · exact ⟨_, .odd (.bl true) rfl, cutB_none⟩
        · exact ⟨_, .odd (.int 0) rfl, cutB_none⟩
        · exact ⟨_, .odd (.str (Nat.le_of_ble_eq_true rfl)) rfl, cutB_none⟩
        · exact ⟨_, .nums (P := []) (t28 _ _ g1) (Nat.zero_le _), cutB_no fun c => by have := cutI_zero c; simp at this⟩
        · exact ⟨_, .mix (j := 0) (y := .non) (t38 _ _ g2) (Nat.le_of_ble_eq_true rfl) (fun y m => by rw [List.mem_singleton.mp m]; exact ⟨_, .non⟩) rfl .non rfl, cutB_none⟩
        · exact ⟨_, .odd (.lst (t58 _ _ g3) (Nat.le_of_ble_eq_true rfl)) rfl, cutB_none⟩
        · exact ⟨_, .odd (.dct (t68 _ _ g5)) rfl, cutB_none⟩
        · obtain ⟨dx, u, hb, hu⟩ := hB10
          exact ⟨_, .own hb T.cl_Book T.ty_Book T.kt_Book, cutB_none⟩
        · exact ⟨_, .odd (.str (by omega)) rfl, cutB_none⟩
        · exact ⟨_, .mix (j := 0) (y := .ref p6) (t88 _ _ g7) (Nat.le_of_ble_eq_true rfl) (fun y m => by rw [List.mem_singleton.mp m]; exact ⟨_, .tup (t78 _ _ g6) (Nat.le_of_ble_eq_true rfl)⟩) rfl (.tup (t78 _ _ g6) (Nat.le_of_ble_eq_true rfl)) rfl, cutB_none⟩
        · exact ⟨_, .nums (P := [((z.length : Nat) : Int)]) (s10 _ _ g8) (Nat.le_of_ble_eq_true rfl), cutB_no fun c => by
            have := cutI_zero c
            have := Option.some.inj this
            omega⟩
      walk_at "rd"
      refine ⟨⟨_, .of g10⟩, for_list (K := K) (a := L9) (xs := [V.non, .bl true, .int 0, .str "", .ref p1, .ref p2, .ref p3, .ref p4, .ref bk, .str z, .ref p7, .ref p8]) (fun i σ H' => ∃ (o10 : Option V), σ = [some (.ref a), some (.ref t), some (.str z), some (.ref la), some (.ref bk), some (.ref f0), some (.ref fn), some (.ref p), o8, o9, o10, o11, none] ∧ Same G10 H')
        ⟨_, rfl, Same.refl _⟩ (fun i σ H' _ ⟨_, _, s⟩ => .of (s _ _ g10)) ?_ ?_⟩
      · rintro i x _ H17 hx ⟨o10, rfl, s17⟩
        obtain ⟨o, ho, zo⟩ := all x (List.mem_of_getElem? hx)
        walk_at "rd"
        refine ⟨bk, x, ws, z, o, rfl, hB10.same s17, W, z40, ho.same s17, fun H18 s18 => ?_⟩
        rw [zo]
        walk_at "rd"
        refine flagR ?_
        rw [show (false == false) = true from rfl]
        walk_at "rd"
        exact ⟨_, rfl, s17.trans s18⟩
      · rintro _ H17 ⟨o10, rfl, s17⟩
        walk_at "rd"
        refine ⟨bk, ws, z, rfl, hB10.same s17, W, z40, fun r1 H18 s18 a1 => ?_⟩
        walk_at "rd"
        refine ⟨bk, ws, z, rfl, (hB10.same s17).same s18, W, z40, fun r2 H19 s19 a2 => ?_⟩
        have d2 := Ans.due s19 a1 a2
        walk_at "rd"
        refine ⟨Nat.le_of_ble_eq_true rfl, Rd.new fun u H20 nu gu s20 => ?_⟩
        have s70 := ((s17.trans s18).trans s19).trans s20
        walk_at "rd"
        refine eqData (due_dp gu (d2.keep fun b xs g => s20 _ _ g)) (due_dp (s70 _ _ gp10) (hd10.keep fun b xs g => s70 _ _ g)) (due_sh ws z) ?_
        exact k _
theorem ok_law (T : Txt K mg) : Rg.FnG P w K mg base CX0 7 T.f_law T.fd_law ["_law_script"] (sp_law K) := by
  refine Rg.okG T.F_law sc_law (fun vs H Q E h => ?_) (fun cdv A outer s H vs Q E gd hr h => ?_)
  · obtain ⟨a, ns, rfl, _⟩ := h
    rfl
  · obtain ⟨a, ns, rfl, hS, hlen, k⟩ := h
    refine ⟨_, (pss_one (ps_ret (pe_and (Rg.pe_callG gd (ok_l_first T) (hr.mono (by decide)) rfl T.g_l_first T.F_l_first.kp T.b_l_first pass0 (pa_cons (pv 0) pa_nil)) (pe_one (Rg.pe_callG gd (ok_l_second T) (hr.mono (by decide)) rfl T.g_l_second T.F_l_second.kp T.b_l_second pass0 (pa_cons (pv 0) pa_nil)))))), ?_⟩
    walk_at "rd"
    refine ⟨a, ns, rfl, hS, hlen, fun H1 s1 => ?_⟩
    walk_at "rd"
    exact ⟨a, ns, rfl, Same.seq s1 hS, hlen, fun H2 => k _⟩

end
end W

namespace W
open PySem PySem.Spec PyProof.Rows L2
theorem all_mk {l : PySem.W.OpenLaw} {w : World} {K : PySem.W.Frag} {h : Heap} {mg : Str → Option Value} {fa : Addr} (X : K.In h) (G : h.Ns mainGlobals mg) (hfa : mg "law" = some (.ref fa))
    {f1 f2 f3 f4 f5 f6 f7 f8 f9 f10 f11 f12 f13 f14 f15 f16 f17 f18 f19 f20 f21 f22 f23 f24 f25 f26 f27 f28 f29 f30 f31 f32 f33 f34 C0 : Addr} {od1 an1 od2 an2 od3 an3 od4 an4 od5 an5 od6 an6 od7 an7 od8 an8 od9 an9 od10 an10 od11 an11 od12 an12 od13 an13 od14 an14 od15 an15 od16 an16 od17 an17 od18 an18 od19 an19 od20 an20 od21 an21 od22 an22 od23 an23 od24 an24 od25 an25 od26 an26 od27 an27 od28 an28 od29 an29 od30 an30 od31 an31 od32 an32 od33 an33 od34 an34 : Option Addr} {sl1 sl2 sl3 sl4 sl5 sl6 sl7 sl8 sl9 sl10 sl11 sl12 sl13 sl14 sl15 sl16 sl17 sl18 sl19 sl20 sl21 sl22 sl23 sl24 sl25 sl26 sl27 sl28 sl29 sl30 sl31 sl32 sl33 sl34 : Array (Option Value)} {oc1 kV1 dc1 pm1 cd1 ct1 oc2 kV2 dc2 pm2 cd2 ct2 oc3 kV3 dc3 pm3 cd3 ct3 oc4 kV4 dc4 pm4 cd4 ct4 oc5 kV5 dc5 pm5 cd5 ct5 oc6 kV6 dc6 pm6 cd6 ct6 oc7 kV7 dc7 pm7 cd7 ct7 oc8 kV8 dc8 pm8 cd8 ct8 oc9 kV9 dc9 pm9 cd9 ct9 oc10 kV10 dc10 pm10 cd10 ct10 oc11 kV11 dc11 pm11 cd11 ct11 oc12 kV12 dc12 pm12 cd12 ct12 oc13 kV13 dc13 pm13 cd13 ct13 oc14 kV14 dc14 pm14 cd14 ct14 oc15 kV15 dc15 pm15 cd15 ct15 oc16 kV16 dc16 pm16 cd16 ct16 oc17 kV17 dc17 pm17 cd17 ct17 oc18 kV18 dc18 pm18 cd18 ct18 oc19 kV19 dc19 pm19 cd19 ct19 oc20 kV20 dc20 pm20 cd20 ct20 oc21 kV21 dc21 pm21 cd21 ct21 oc22 kV22 dc22 pm22 cd22 ct22 oc23 kV23 dc23 pm23 cd23 ct23 oc24 kV24 dc24 pm24 cd24 ct24 oc25 kV25 dc25 pm25 cd25 ct25 oc26 kV26 dc26 pm26 cd26 ct26 oc27 kV27 dc27 pm27 cd27 ct27 oc28 kV28 dc28 pm28 cd28 ct28 oc29 kV29 dc29 pm29 cd29 ct29 oc30 kV30 dc30 pm30 cd30 ct30 oc31 kV31 dc31 pm31 cd31 ct31 oc32 kV32 dc32 pm32 cd32 ct32 oc33 kV33 dc33 pm33 cd33 ct33 oc34 kV34 dc34 pm34 cd34 ct34 : Value}
    (u0 : PySem.W.nsIn K mainGlobals "Book" = some (some (.ref C0)))
    (pg0 : PySem.W.plainGet K C0 Str.empty = true) (hd0 : PySem.W.hasDictIn K C0 = true) (po0 : PySem.W.plainOver K C0 = true) (sa0 : PySem.W.findIn K (.ref C0) "__setattr__" = some (some (.builtin "object.__setattr__")))
    (wc0 : PySem.W.findIn K (.ref C0) "__class__" = some (some (.builtin "object.__class__"))) (wm0 : PySem.W.mroIn K C0 (.type "object") = some true)
    (wn0 : PySem.W.specialIn K (.builtin "object.__class__") "__get__" = some (some (.builtin "getset_descriptor.__get__"))) (wt0 : PySem.W.takesIn K (.builtin "object.__class__") = some true)
    (na0_0 : PySem.W.findIn K (.ref C0) "watches" = some none)
    (fx0_0 : PySem.W.mroIn K C0 (.type "int") = some false)
    (fx0_1 : PySem.W.mroIn K C0 (.type "bool") = some false)
    (fx0_2 : PySem.W.isClsIn K C0 = true)
    (fx0_3 : PySem.W.typeIn K (.ref C0) = some (.type "type"))
    (fx0_4 : PySem.W.subIn K (.ref C0) (.ref C0) = some true)
    (fx0_5 : PySem.W.mroIn K C0 (.type "tuple") = some false)
    (a1 : PySem.W.nsIn K mainGlobals "is_integer" = some (some (.ref f1)))
    (l1 : K.lookup f1 = some ⟨oc1, od1, .func (PySem.W.fnOf "is_integer" "is_integer" (defArgs s_is_integer) (defBody s_is_integer) (defScope s_is_integer) .none kV1 dc1 pm1 an1 cd1 ct1), sl1⟩) (c1 : PySem.W.codeIn K cd1 "is_integer" = true) (k1 : PySem.W.keepIn K (.ref f1) = true)
    (a2 : PySem.W.nsIn K mainGlobals "is_letters" = some (some (.ref f2)))
    (l2 : K.lookup f2 = some ⟨oc2, od2, .func (PySem.W.fnOf "is_letters" "is_letters" (defArgs s_is_letters) (defBody s_is_letters) (defScope s_is_letters) .none kV2 dc2 pm2 an2 cd2 ct2), sl2⟩) (c2 : PySem.W.codeIn K cd2 "is_letters" = true) (k2 : PySem.W.keepIn K (.ref f2) = true)
    (a3 : PySem.W.nsIn K mainGlobals "is_word" = some (some (.ref f3)))
    (l3 : K.lookup f3 = some ⟨oc3, od3, .func (PySem.W.fnOf "is_word" "is_word" (defArgs s_is_word) (defBody s_is_word) (defScope s_is_word) .none kV3 dc3 pm3 an3 cd3 ct3), sl3⟩) (c3 : PySem.W.codeIn K cd3 "is_word" = true) (k3 : PySem.W.keepIn K (.ref f3) = true)
    (a4 : PySem.W.nsIn K mainGlobals "is_watch" = some (some (.ref f4)))
    (l4 : K.lookup f4 = some ⟨oc4, od4, .func (PySem.W.fnOf "is_watch" "is_watch" (defArgs s_is_watch) (defBody s_is_watch) (defScope s_is_watch) .none kV4 dc4 pm4 an4 cd4 ct4), sl4⟩) (c4 : PySem.W.codeIn K cd4 "is_watch" = true) (k4 : PySem.W.keepIn K (.ref f4) = true)
    (a5 : PySem.W.nsIn K mainGlobals "check_word" = some (some (.ref f5)))
    (l5 : K.lookup f5 = some ⟨oc5, od5, .func (PySem.W.fnOf "check_word" "check_word" (defArgs s_check_word) (defBody s_check_word) (defScope s_check_word) .none kV5 dc5 pm5 an5 cd5 ct5), sl5⟩) (c5 : PySem.W.codeIn K cd5 "check_word" = true) (k5 : PySem.W.keepIn K (.ref f5) = true)
    (a6 : PySem.W.findIn K (.ref C0) "__init__" = some (some (.ref f6))) (i6 : PySem.W.isFn K (.ref f6) = true)
    (mk0 : PySem.W.makesIn K C0 = true) (kc0 : PySem.W.keepIn K (.ref C0) = true)
    (l6 : K.lookup f6 = some ⟨oc6, od6, .func (PySem.W.fnOf "__init__" "Book.__init__" (defArgs s_Book_init) (defBody s_Book_init) (defScope s_Book_init) .none kV6 dc6 pm6 an6 cd6 ct6), sl6⟩) (c6 : PySem.W.codeIn K cd6 "Book.__init__" = true) (k6 : PySem.W.keepIn K (.ref f6) = true)
    (a7 : PySem.W.nsIn K mainGlobals "check_book" = some (some (.ref f7)))
    (l7 : K.lookup f7 = some ⟨oc7, od7, .func (PySem.W.fnOf "check_book" "check_book" (defArgs s_check_book) (defBody s_check_book) (defScope s_check_book) .none kV7 dc7 pm7 an7 cd7 ct7), sl7⟩) (c7 : PySem.W.codeIn K cd7 "check_book" = true) (k7 : PySem.W.keepIn K (.ref f7) = true)
    (a8 : PySem.W.nsIn K mainGlobals "links_of" = some (some (.ref f8)))
    (l8 : K.lookup f8 = some ⟨oc8, od8, .func (PySem.W.fnOf "links_of" "links_of" (defArgs s_links_of) (defBody s_links_of) (defScope s_links_of) .none kV8 dc8 pm8 an8 cd8 ct8), sl8⟩) (c8 : PySem.W.codeIn K cd8 "links_of" = true) (k8 : PySem.W.keepIn K (.ref f8) = true)
    (a9 : PySem.W.nsIn K mainGlobals "grown" = some (some (.ref f9)))
    (l9 : K.lookup f9 = some ⟨oc9, od9, .func (PySem.W.fnOf "grown" "grown" (defArgs s_grown) (defBody s_grown) (defScope s_grown) .none kV9 dc9 pm9 an9 cd9 ct9), sl9⟩) (c9 : PySem.W.codeIn K cd9 "grown" = true) (k9 : PySem.W.keepIn K (.ref f9) = true)
    (a10 : PySem.W.nsIn K mainGlobals "distances" = some (some (.ref f10)))
    (l10 : K.lookup f10 = some ⟨oc10, od10, .func (PySem.W.fnOf "distances" "distances" (defArgs s_distances) (defBody s_distances) (defScope s_distances) .none kV10 dc10 pm10 an10 cd10 ct10), sl10⟩) (c10 : PySem.W.codeIn K cd10 "distances" = true) (k10 : PySem.W.keepIn K (.ref f10) = true)
    (a11 : PySem.W.nsIn K mainGlobals "shortest" = some (some (.ref f11)))
    (l11 : K.lookup f11 = some ⟨oc11, od11, .func (PySem.W.fnOf "shortest" "shortest" (defArgs s_shortest) (defBody s_shortest) (defScope s_shortest) .none kV11 dc11 pm11 an11 cd11 ct11), sl11⟩) (c11 : PySem.W.codeIn K cd11 "shortest" = true) (k11 : PySem.W.keepIn K (.ref f11) = true)
    (a12 : PySem.W.nsIn K mainGlobals "zigzag" = some (some (.ref f12)))
    (l12 : K.lookup f12 = some ⟨oc12, od12, .func (PySem.W.fnOf "zigzag" "zigzag" (defArgs s_zigzag) (defBody s_zigzag) (defScope s_zigzag) .none kV12 dc12 pm12 an12 cd12 ct12), sl12⟩) (c12 : PySem.W.codeIn K cd12 "zigzag" = true) (k12 : PySem.W.keepIn K (.ref f12) = true)
    (a13 : PySem.W.nsIn K mainGlobals "is_zigzag" = some (some (.ref f13)))
    (l13 : K.lookup f13 = some ⟨oc13, od13, .func (PySem.W.fnOf "is_zigzag" "is_zigzag" (defArgs s_is_zigzag) (defBody s_is_zigzag) (defScope s_is_zigzag) .none kV13 dc13 pm13 an13 cd13 ct13), sl13⟩) (c13 : PySem.W.codeIn K cd13 "is_zigzag" = true) (k13 : PySem.W.keepIn K (.ref f13) = true)
    (a14 : PySem.W.nsIn K mainGlobals "cut" = some (some (.ref f14)))
    (l14 : K.lookup f14 = some ⟨oc14, od14, .func (PySem.W.fnOf "cut" "cut" (defArgs s_cut) (defBody s_cut) (defScope s_cut) .none kV14 dc14 pm14 an14 cd14 ct14), sl14⟩) (c14 : PySem.W.codeIn K cd14 "cut" = true) (k14 : PySem.W.keepIn K (.ref f14) = true)
    (a15 : PySem.W.nsIn K mainGlobals "greatest_cut" = some (some (.ref f15)))
    (l15 : K.lookup f15 = some ⟨oc15, od15, .func (PySem.W.fnOf "greatest_cut" "greatest_cut" (defArgs s_greatest_cut) (defBody s_greatest_cut) (defScope s_greatest_cut) .none kV15 dc15 pm15 an15 cd15 ct15), sl15⟩) (c15 : PySem.W.codeIn K cd15 "greatest_cut" = true) (k15 : PySem.W.keepIn K (.ref f15) = true)
    (a16 : PySem.W.nsIn K mainGlobals "fits_cut" = some (some (.ref f16)))
    (l16 : K.lookup f16 = some ⟨oc16, od16, .func (PySem.W.fnOf "fits_cut" "fits_cut" (defArgs s_fits_cut) (defBody s_fits_cut) (defScope s_fits_cut) .none kV16 dc16 pm16 an16 cd16 ct16), sl16⟩) (c16 : PySem.W.codeIn K cd16 "fits_cut" = true) (k16 : PySem.W.keepIn K (.ref f16) = true)
    (a17 : PySem.W.nsIn K mainGlobals "is_cut" = some (some (.ref f17)))
    (l17 : K.lookup f17 = some ⟨oc17, od17, .func (PySem.W.fnOf "is_cut" "is_cut" (defArgs s_is_cut) (defBody s_is_cut) (defScope s_is_cut) .none kV17 dc17 pm17 an17 cd17 ct17), sl17⟩) (c17 : PySem.W.codeIn K cd17 "is_cut" = true) (k17 : PySem.W.keepIn K (.ref f17) = true)
    (a18 : PySem.W.nsIn K mainGlobals "_law_tape" = some (some (.ref f18)))
    (l18 : K.lookup f18 = some ⟨oc18, od18, .func (PySem.W.fnOf "_law_tape" "_law_tape" (defArgs s_l_tape) (defBody s_l_tape) (defScope s_l_tape) .none kV18 dc18 pm18 an18 cd18 ct18), sl18⟩) (c18 : PySem.W.codeIn K cd18 "_law_tape" = true) (k18 : PySem.W.keepIn K (.ref f18) = true)
    (a19 : PySem.W.nsIn K mainGlobals "_law_pick" = some (some (.ref f19)))
    (l19 : K.lookup f19 = some ⟨oc19, od19, .func (PySem.W.fnOf "_law_pick" "_law_pick" (defArgs s_l_pick) (defBody s_l_pick) (defScope s_l_pick) .none kV19 dc19 pm19 an19 cd19 ct19), sl19⟩) (c19 : PySem.W.codeIn K cd19 "_law_pick" = true) (k19 : PySem.W.keepIn K (.ref f19) = true)
    (a20 : PySem.W.nsIn K mainGlobals "_law_flag" = some (some (.ref f20)))
    (l20 : K.lookup f20 = some ⟨oc20, od20, .func (PySem.W.fnOf "_law_flag" "_law_flag" (defArgs s_l_flag) (defBody s_l_flag) (defScope s_l_flag) .none kV20 dc20 pm20 an20 cd20 ct20), sl20⟩) (c20 : PySem.W.codeIn K cd20 "_law_flag" = true) (k20 : PySem.W.keepIn K (.ref f20) = true)
    (a21 : PySem.W.nsIn K mainGlobals "_law_letters" = some (some (.ref f21)))
    (l21 : K.lookup f21 = some ⟨oc21, od21, .func (PySem.W.fnOf "_law_letters" "_law_letters" (defArgs s_l_letters) (defBody s_l_letters) (defScope s_l_letters) .none kV21 dc21 pm21 an21 cd21 ct21), sl21⟩) (c21 : PySem.W.codeIn K cd21 "_law_letters" = true) (k21 : PySem.W.keepIn K (.ref f21) = true)
    (a22 : PySem.W.nsIn K mainGlobals "_law_word" = some (some (.ref f22)))
    (l22 : K.lookup f22 = some ⟨oc22, od22, .func (PySem.W.fnOf "_law_word" "_law_word" (defArgs s_l_word) (defBody s_l_word) (defScope s_l_word) .none kV22 dc22 pm22 an22 cd22 ct22), sl22⟩) (c22 : PySem.W.codeIn K cd22 "_law_word" = true) (k22 : PySem.W.keepIn K (.ref f22) = true)
    (a23 : PySem.W.nsIn K mainGlobals "_law_watch" = some (some (.ref f23)))
    (l23 : K.lookup f23 = some ⟨oc23, od23, .func (PySem.W.fnOf "_law_watch" "_law_watch" (defArgs s_l_watch) (defBody s_l_watch) (defScope s_l_watch) .none kV23 dc23 pm23 an23 cd23 ct23), sl23⟩) (c23 : PySem.W.codeIn K cd23 "_law_watch" = true) (k23 : PySem.W.keepIn K (.ref f23) = true)
    (a24 : PySem.W.nsIn K mainGlobals "_law_watches" = some (some (.ref f24)))
    (l24 : K.lookup f24 = some ⟨oc24, od24, .func (PySem.W.fnOf "_law_watches" "_law_watches" (defArgs s_l_watches) (defBody s_l_watches) (defScope s_l_watches) .none kV24 dc24 pm24 an24 cd24 ct24), sl24⟩) (c24 : PySem.W.codeIn K cd24 "_law_watches" = true) (k24 : PySem.W.keepIn K (.ref f24) = true)
    (a25 : PySem.W.nsIn K mainGlobals "_law_near" = some (some (.ref f25)))
    (l25 : K.lookup f25 = some ⟨oc25, od25, .func (PySem.W.fnOf "_law_near" "_law_near" (defArgs s_l_near) (defBody s_l_near) (defScope s_l_near) .none kV25 dc25 pm25 an25 cd25 ct25), sl25⟩) (c25 : PySem.W.codeIn K cd25 "_law_near" = true) (k25 : PySem.W.keepIn K (.ref f25) = true)
    (a26 : PySem.W.nsIn K mainGlobals "_law_is_zigzag" = some (some (.ref f26)))
    (l26 : K.lookup f26 = some ⟨oc26, od26, .func (PySem.W.fnOf "_law_is_zigzag" "_law_is_zigzag" (defArgs s_l_is_zigzag) (defBody s_l_is_zigzag) (defScope s_l_is_zigzag) .none kV26 dc26 pm26 an26 cd26 ct26), sl26⟩) (c26 : PySem.W.codeIn K cd26 "_law_is_zigzag" = true) (k26 : PySem.W.keepIn K (.ref f26) = true)
    (a27 : PySem.W.nsIn K mainGlobals "_law_bent" = some (some (.ref f27)))
    (l27 : K.lookup f27 = some ⟨oc27, od27, .func (PySem.W.fnOf "_law_bent" "_law_bent" (defArgs s_l_bent) (defBody s_l_bent) (defScope s_l_bent) .none kV27 dc27 pm27 an27 cd27 ct27), sl27⟩) (c27 : PySem.W.codeIn K cd27 "_law_bent" = true) (k27 : PySem.W.keepIn K (.ref f27) = true)
    (a28 : PySem.W.nsIn K mainGlobals "_law_first" = some (some (.ref f28)))
    (l28 : K.lookup f28 = some ⟨oc28, od28, .func (PySem.W.fnOf "_law_first" "_law_first" (defArgs s_l_first) (defBody s_l_first) (defScope s_l_first) .none kV28 dc28 pm28 an28 cd28 ct28), sl28⟩) (c28 : PySem.W.codeIn K cd28 "_law_first" = true) (k28 : PySem.W.keepIn K (.ref f28) = true)
    (a29 : PySem.W.nsIn K mainGlobals "_law_flood" = some (some (.ref f29)))
    (l29 : K.lookup f29 = some ⟨oc29, od29, .func (PySem.W.fnOf "_law_flood" "_law_flood" (defArgs s_l_flood) (defBody s_l_flood) (defScope s_l_flood) .none kV29 dc29 pm29 an29 cd29 ct29), sl29⟩) (c29 : PySem.W.codeIn K cd29 "_law_flood" = true) (k29 : PySem.W.keepIn K (.ref f29) = true)
    (a30 : PySem.W.nsIn K mainGlobals "_law_is_cut" = some (some (.ref f30)))
    (l30 : K.lookup f30 = some ⟨oc30, od30, .func (PySem.W.fnOf "_law_is_cut" "_law_is_cut" (defArgs s_l_is_cut) (defBody s_l_is_cut) (defScope s_l_is_cut) .none kV30 dc30 pm30 an30 cd30 ct30), sl30⟩) (c30 : PySem.W.codeIn K cd30 "_law_is_cut" = true) (k30 : PySem.W.keepIn K (.ref f30) = true)
    (a31 : PySem.W.nsIn K mainGlobals "_law_lot" = some (some (.ref f31)))
    (l31 : K.lookup f31 = some ⟨oc31, od31, .func (PySem.W.fnOf "_law_lot" "_law_lot" (defArgs s_l_lot) (defBody s_l_lot) (defScope s_l_lot) .none kV31 dc31 pm31 an31 cd31 ct31), sl31⟩) (c31 : PySem.W.codeIn K cd31 "_law_lot" = true) (k31 : PySem.W.keepIn K (.ref f31) = true)
    (a32 : PySem.W.nsIn K mainGlobals "_law_bent_too" = some (some (.ref f32)))
    (l32 : K.lookup f32 = some ⟨oc32, od32, .func (PySem.W.fnOf "_law_bent_too" "_law_bent_too" (defArgs s_l_bent_too) (defBody s_l_bent_too) (defScope s_l_bent_too) .none kV32 dc32 pm32 an32 cd32 ct32), sl32⟩) (c32 : PySem.W.codeIn K cd32 "_law_bent_too" = true) (k32 : PySem.W.keepIn K (.ref f32) = true)
    (a33 : PySem.W.nsIn K mainGlobals "_law_second" = some (some (.ref f33)))
    (l33 : K.lookup f33 = some ⟨oc33, od33, .func (PySem.W.fnOf "_law_second" "_law_second" (defArgs s_l_second) (defBody s_l_second) (defScope s_l_second) .none kV33 dc33 pm33 an33 cd33 ct33), sl33⟩) (c33 : PySem.W.codeIn K cd33 "_law_second" = true) (k33 : PySem.W.keepIn K (.ref f33) = true)
    (a34 : PySem.W.nsIn K mainGlobals "law" = some (some (.ref f34)))
    (l34 : K.lookup f34 = some ⟨oc34, od34, .func (PySem.W.fnOf "law" "law" (defArgs s_law) (defBody s_law) (defScope s_law) .none kV34 dc34 pm34 an34 cd34 ct34), sl34⟩) (c34 : PySem.W.codeIn K cd34 "law" = true) (k34 : PySem.W.keepIn K (.ref f34) = true)
    (z0 : PySem.W.nsIn K mainGlobals "isinstance" = some none)
    (z1 : PySem.W.nsIn K mainGlobals "int" = some none)
    (z2 : PySem.W.nsIn K mainGlobals "bool" = some none)
    (z3 : PySem.W.nsIn K mainGlobals "str" = some none)
    (z4 : PySem.W.nsIn K mainGlobals "all" = some none)
    (z5 : PySem.W.nsIn K mainGlobals "len" = some none)
    (z6 : PySem.W.nsIn K mainGlobals "enumerate" = some none)
    (z7 : PySem.W.nsIn K mainGlobals "tuple" = some none)
    (z8 : PySem.W.nsIn K mainGlobals "list" = some none)
    (z9 : PySem.W.nsIn K mainGlobals "range" = some none)
    (z10 : PySem.W.nsIn K mainGlobals "sorted" = some none)
    (z11 : PySem.W.nsIn K mainGlobals "zip" = some none)
    (z12 : PySem.W.nsIn K mainGlobals "set" = some none)
    (z13 : PySem.W.nsIn K mainGlobals "min" = some none)
    (z14 : PySem.W.nsIn K mainGlobals "max" = some none)
    (z15 : PySem.W.nsIn K mainGlobals "repr" = some none)
    {t0 : Tok} (y0 : PySem.W.nsIn K mainGlobals "LETTERS" = some (some (.str "abcdefghijklmnopqrstuvwxyz" t0)))
    {t1 : Tok} (y1 : PySem.W.nsIn K mainGlobals "MOST_WORD" = some (some (.int 40 t1)))
    {t2 : Tok} (y2 : PySem.W.nsIn K mainGlobals "MOST_WATCH" = some (some (.int 12 t2)))
    {t3 : Tok} (y3 : PySem.W.nsIn K mainGlobals "MOST_WATCHES" = some (some (.int 12 t3)))
    : ∃ fd : FuncData, (∀ (s : Shared) (v : Value), BindsTo s fd ⟨[v], []⟩ [("_law_script", v)]) ∧ ∀ base : Heap, K.In base → base.Ns mainGlobals mg → Rg.FnG l.prog w K mg base CX0 7 fa fd ["_law_script"] (sp_law K) := by
  have e := hfa.symm.trans (PySem.W.mg_of X G a34)
  cases e
  have F1 := fun_mk (st := s_is_integer) l1 c1 k1
  have F2 := fun_mk (st := s_is_letters) l2 c2 k2
  have F3 := fun_mk (st := s_is_word) l3 c3 k3
  have F4 := fun_mk (st := s_is_watch) l4 c4 k4
  have F5 := fun_mk (st := s_check_word) l5 c5 k5
  have F6 := fun_mk (st := s_Book_init) l6 c6 k6
  have F7 := fun_mk (st := s_check_book) l7 c7 k7
  have F8 := fun_mk (st := s_links_of) l8 c8 k8
  have F9 := fun_mk (st := s_grown) l9 c9 k9
  have F10 := fun_mk (st := s_distances) l10 c10 k10
  have F11 := fun_mk (st := s_shortest) l11 c11 k11
  have F12 := fun_mk (st := s_zigzag) l12 c12 k12
  have F13 := fun_mk (st := s_is_zigzag) l13 c13 k13
  have F14 := fun_mk (st := s_cut) l14 c14 k14
  have F15 := fun_mk (st := s_greatest_cut) l15 c15 k15
  have F16 := fun_mk (st := s_fits_cut) l16 c16 k16
  have F17 := fun_mk (st := s_is_cut) l17 c17 k17
  have F18 := fun_mk (st := s_l_tape) l18 c18 k18
  have F19 := fun_mk (st := s_l_pick) l19 c19 k19
  have F20 := fun_mk (st := s_l_flag) l20 c20 k20
  have F21 := fun_mk (st := s_l_letters) l21 c21 k21
  have F22 := fun_mk (st := s_l_word) l22 c22 k22
  have F23 := fun_mk (st := s_l_watch) l23 c23 k23
  have F24 := fun_mk (st := s_l_watches) l24 c24 k24
  have F25 := fun_mk (st := s_l_near) l25 c25 k25
  have F26 := fun_mk (st := s_l_is_zigzag) l26 c26 k26
  have F27 := fun_mk (st := s_l_bent) l27 c27 k27
  have F28 := fun_mk (st := s_l_first) l28 c28 k28
  have F29 := fun_mk (st := s_l_flood) l29 c29 k29
  have F30 := fun_mk (st := s_l_is_cut) l30 c30 k30
  have F31 := fun_mk (st := s_l_lot) l31 c31 k31
  have F32 := fun_mk (st := s_l_bent_too) l32 c32 k32
  have F33 := fun_mk (st := s_l_second) l33 c33 k33
  have F34 := fun_mk (st := s_law) l34 c34 k34
  let T : Txt K mg := {
    C_Book := C0, c_Book := PySem.W.mg_of X G u0,
    cl_Book := ⟨pg0, hd0, po0, sa0⟩, ty_Book := ⟨wc0, wn0, wt0, wm0, kit_self⟩,
    na_Book_watches := na0_0,
    ki_Book := fx0_0,
    kb_Book := fx0_1,
    ic_Book := fx0_2,
    tc_Book := fx0_3,
    sl_Book := fx0_4,
    kt_Book := fx0_5,
    f_is_integer := f1, fd_is_integer := _, F_is_integer := F1, g_is_integer := PySem.W.mg_of X G a1, b_is_integer := F1.binds (ps := ["value"]) fun _ _ _ _ _ _ us hl => match us, hl with | [_], _ => rfl,
    f_is_letters := f2, fd_is_letters := _, F_is_letters := F2, g_is_letters := PySem.W.mg_of X G a2, b_is_letters := F2.binds (ps := ["value"]) fun _ _ _ _ _ _ us hl => match us, hl with | [_], _ => rfl,
    f_is_word := f3, fd_is_word := _, F_is_word := F3, g_is_word := PySem.W.mg_of X G a3, b_is_word := F3.binds (ps := ["thing"]) fun _ _ _ _ _ _ us hl => match us, hl with | [_], _ => rfl,
    f_is_watch := f4, fd_is_watch := _, F_is_watch := F4, g_is_watch := PySem.W.mg_of X G a4, b_is_watch := F4.binds (ps := ["thing"]) fun _ _ _ _ _ _ us hl => match us, hl with | [_], _ => rfl,
    f_check_word := f5, fd_check_word := _, F_check_word := F5, g_check_word := PySem.W.mg_of X G a5, b_check_word := F5.binds (ps := ["word"]) fun _ _ _ _ _ _ us hl => match us, hl with | [_], _ => rfl,
    f_Book_init := f6, fd_Book_init := _, F_Book_init := F6, M_Book := ⟨mk0, a6, i6, kc0⟩, b_Book_init := F6.binds (ps := ["self", "watches"]) fun _ _ _ _ _ _ us hl => match us, hl with | [_, _], _ => rfl,
    f_check_book := f7, fd_check_book := _, F_check_book := F7, g_check_book := PySem.W.mg_of X G a7, b_check_book := F7.binds (ps := ["book"]) fun _ _ _ _ _ _ us hl => match us, hl with | [_], _ => rfl,
    f_links_of := f8, fd_links_of := _, F_links_of := F8, g_links_of := PySem.W.mg_of X G a8, b_links_of := F8.binds (ps := ["watches", "word"]) fun _ _ _ _ _ _ us hl => match us, hl with | [_, _], _ => rfl,
    f_grown := f9, fd_grown := _, F_grown := F9, g_grown := PySem.W.mg_of X G a9, b_grown := F9.binds (ps := ["links", "spots"]) fun _ _ _ _ _ _ us hl => match us, hl with | [_, _], _ => rfl,
    f_distances := f10, fd_distances := _, F_distances := F10, g_distances := PySem.W.mg_of X G a10, b_distances := F10.binds (ps := ["links"]) fun _ _ _ _ _ _ us hl => match us, hl with | [_], _ => rfl,
    f_shortest := f11, fd_shortest := _, F_shortest := F11, g_shortest := PySem.W.mg_of X G a11, b_shortest := F11.binds (ps := ["watches", "word"]) fun _ _ _ _ _ _ us hl => match us, hl with | [_, _], _ => rfl,
    f_zigzag := f12, fd_zigzag := _, F_zigzag := F12, g_zigzag := PySem.W.mg_of X G a12, b_zigzag := F12.binds (ps := ["book", "word"]) fun _ _ _ _ _ _ us hl => match us, hl with | [_, _], _ => rfl,
    f_is_zigzag := f13, fd_is_zigzag := _, F_is_zigzag := F13, g_is_zigzag := PySem.W.mg_of X G a13, b_is_zigzag := F13.binds (ps := ["book", "word", "thing"]) fun _ _ _ _ _ _ us hl => match us, hl with | [_, _, _], _ => rfl,
    f_cut := f14, fd_cut := _, F_cut := F14, g_cut := PySem.W.mg_of X G a14, b_cut := F14.binds (ps := ["book", "word"]) fun _ _ _ _ _ _ us hl => match us, hl with | [_, _], _ => rfl,
    f_greatest_cut := f15, fd_greatest_cut := _, F_greatest_cut := F15, g_greatest_cut := PySem.W.mg_of X G a15, b_greatest_cut := F15.binds (ps := ["book", "word"]) fun _ _ _ _ _ _ us hl => match us, hl with | [_, _], _ => rfl,
    f_fits_cut := f16, fd_fits_cut := _, F_fits_cut := F16, g_fits_cut := PySem.W.mg_of X G a16, b_fits_cut := F16.binds (ps := ["watches", "word", "thing"]) fun _ _ _ _ _ _ us hl => match us, hl with | [_, _, _], _ => rfl,
    f_is_cut := f17, fd_is_cut := _, F_is_cut := F17, g_is_cut := PySem.W.mg_of X G a17, b_is_cut := F17.binds (ps := ["book", "word", "thing"]) fun _ _ _ _ _ _ us hl => match us, hl with | [_, _, _], _ => rfl,
    f_l_tape := f18, fd_l_tape := _, F_l_tape := F18, g_l_tape := PySem.W.mg_of X G a18, b_l_tape := F18.binds (ps := ["_law_script"]) fun _ _ _ _ _ _ us hl => match us, hl with | [_], _ => rfl,
    f_l_pick := f19, fd_l_pick := _, F_l_pick := F19, g_l_pick := PySem.W.mg_of X G a19, b_l_pick := F19.binds (ps := ["_law_tape_here", "_law_size"]) fun _ _ _ _ _ _ us hl => match us, hl with | [_, _], _ => rfl,
    f_l_flag := f20, fd_l_flag := _, F_l_flag := F20, g_l_flag := PySem.W.mg_of X G a20, b_l_flag := F20.binds (ps := ["_law_told", "_law_due"]) fun _ _ _ _ _ _ us hl => match us, hl with | [_, _], _ => rfl,
    f_l_letters := f21, fd_l_letters := _, F_l_letters := F21, g_l_letters := PySem.W.mg_of X G a21, b_l_letters := F21.binds (ps := ["_law_tape_here", "_law_many"]) fun _ _ _ _ _ _ us hl => match us, hl with | [_, _], _ => rfl,
    f_l_word := f22, fd_l_word := _, F_l_word := F22, g_l_word := PySem.W.mg_of X G a22, b_l_word := F22.binds (ps := ["_law_tape_here", "_law_most"]) fun _ _ _ _ _ _ us hl => match us, hl with | [_, _], _ => rfl,
    f_l_watch := f23, fd_l_watch := _, F_l_watch := F23, g_l_watch := PySem.W.mg_of X G a23, b_l_watch := F23.binds (ps := ["_law_tape_here", "_law_word_here", "_law_most"]) fun _ _ _ _ _ _ us hl => match us, hl with | [_, _, _], _ => rfl,
    f_l_watches := f24, fd_l_watches := _, F_l_watches := F24, g_l_watches := PySem.W.mg_of X G a24, b_l_watches := F24.binds (ps := ["_law_tape_here", "_law_word_here", "_law_many", "_law_most"]) fun _ _ _ _ _ _ us hl => match us, hl with | [_, _, _, _], _ => rfl,
    f_l_near := f25, fd_l_near := _, F_l_near := F25, g_l_near := PySem.W.mg_of X G a25, b_l_near := F25.binds (ps := ["_law_watches_here", "_law_word_here", "_law_spot"]) fun _ _ _ _ _ _ us hl => match us, hl with | [_, _, _], _ => rfl,
    f_l_is_zigzag := f26, fd_l_is_zigzag := _, F_l_is_zigzag := F26, g_l_is_zigzag := PySem.W.mg_of X G a26, b_l_is_zigzag := F26.binds (ps := ["_law_watches_here", "_law_word_here", "_law_thing"]) fun _ _ _ _ _ _ us hl => match us, hl with | [_, _, _], _ => rfl,
    f_l_bent := f27, fd_l_bent := _, F_l_bent := F27, g_l_bent := PySem.W.mg_of X G a27, b_l_bent := F27.binds (ps := ["_law_tape_here", "_law_word_here", "_law_way", "_law_watches_here"]) fun _ _ _ _ _ _ us hl => match us, hl with | [_, _, _, _], _ => rfl,
    f_l_first := f28, fd_l_first := _, F_l_first := F28, g_l_first := PySem.W.mg_of X G a28, b_l_first := F28.binds (ps := ["_law_script"]) fun _ _ _ _ _ _ us hl => match us, hl with | [_], _ => rfl,
    f_l_flood := f29, fd_l_flood := _, F_l_flood := F29, g_l_flood := PySem.W.mg_of X G a29, b_l_flood := F29.binds (ps := ["_law_watches_here", "_law_word_here", "_law_start"]) fun _ _ _ _ _ _ us hl => match us, hl with | [_, _, _], _ => rfl,
    f_l_is_cut := f30, fd_l_is_cut := _, F_l_is_cut := F30, g_l_is_cut := PySem.W.mg_of X G a30, b_l_is_cut := F30.binds (ps := ["_law_watches_here", "_law_word_here", "_law_thing"]) fun _ _ _ _ _ _ us hl => match us, hl with | [_, _, _], _ => rfl,
    f_l_lot := f31, fd_l_lot := _, F_l_lot := F31, g_l_lot := PySem.W.mg_of X G a31, b_l_lot := F31.binds (ps := ["_law_tape_here", "_law_watches_here", "_law_word_here"]) fun _ _ _ _ _ _ us hl => match us, hl with | [_, _, _], _ => rfl,
    f_l_bent_too := f32, fd_l_bent_too := _, F_l_bent_too := F32, g_l_bent_too := PySem.W.mg_of X G a32, b_l_bent_too := F32.binds (ps := ["_law_tape_here", "_law_word_here", "_law_lot_here"]) fun _ _ _ _ _ _ us hl => match us, hl with | [_, _, _], _ => rfl,
    f_l_second := f33, fd_l_second := _, F_l_second := F33, g_l_second := PySem.W.mg_of X G a33, b_l_second := F33.binds (ps := ["_law_script"]) fun _ _ _ _ _ _ us hl => match us, hl with | [_], _ => rfl,
    f_law := fa, fd_law := _, F_law := F34, g_law := PySem.W.mg_of X G a34, b_law := F34.binds (ps := ["_law_script"]) fun _ _ _ _ _ _ us hl => match us, hl with | [_], _ => rfl,
    n_isinstance := PySem.W.mg_none_of X G z0,
    n_int := PySem.W.mg_none_of X G z1,
    n_bool := PySem.W.mg_none_of X G z2,
    n_str := PySem.W.mg_none_of X G z3,
    n_all := PySem.W.mg_none_of X G z4,
    n_len := PySem.W.mg_none_of X G z5,
    n_enumerate := PySem.W.mg_none_of X G z6,
    n_tuple := PySem.W.mg_none_of X G z7,
    n_list := PySem.W.mg_none_of X G z8,
    n_range := PySem.W.mg_none_of X G z9,
    n_sorted := PySem.W.mg_none_of X G z10,
    n_zip := PySem.W.mg_none_of X G z11,
    n_set := PySem.W.mg_none_of X G z12,
    n_min := PySem.W.mg_none_of X G z13,
    n_max := PySem.W.mg_none_of X G z14,
    n_repr := PySem.W.mg_none_of X G z15,
    t_LETTERS := t0, m_LETTERS := PySem.W.mg_of X G y0,
    t_MOST_WORD := t1, m_MOST_WORD := PySem.W.mg_of X G y1,
    t_MOST_WATCH := t2, m_MOST_WATCH := PySem.W.mg_of X G y2,
    t_MOST_WATCHES := t3, m_MOST_WATCHES := PySem.W.mg_of X G y3 }
  exact ⟨_, fun s v => .of_eq rfl, fun base _ _ => ok_law T⟩
theorem walk {l : PySem.W.OpenLaw} {q : Program} {loose : List Str} {XP : (Str → Option Value) → Heap → Prop} {YP : World → Heap → Prop} {d : DefRec} {K : Params → PySem.W.Frag} (hn : l.most = some 63) (hdf : d.params.defaults = [])
    (hY : ∀ (w : World) (h : Heap), YP w h → (K w.params).In h)
    (F : ∀ (w : World) (mg : Str → Option Value) (fa : Addr) (h : Heap), (K w.params).In h → h.Ns mainGlobals mg → mg d.name = some (.ref fa) →
      ∃ fd : FuncData, (∀ (s : Shared) (u : Value), BindsTo s fd ⟨[u], []⟩ [("_law_script", u)]) ∧ ∀ base : Heap, (K w.params).In base → base.Ns mainGlobals mg → Rg.FnG l.prog w (K w.params) mg base CX0 7 fa fd ["_law_script"] (sp_law (K w.params))) :
    PySem.W.WalkO q loose XP YP l.row.toRowW d [] (fun f vs => PySem.call f vs) :=
  Rg.walk_ofG (n := 63) (k := 7) (x := "_law_script") (CX := fun _ => CX0) (sp := fun w => sp_law (K w.params)) hn (by decide) hdf ⟨rfl, by decide, by decide⟩ hY F (fun _ _ a ns hl hS => ⟨a, ns, rfl, hS, hl, fun _ => rfl⟩) fun _ _ _ _ _ z => z
end W
open PySem PySem.W PyProof.Rows
set_option maxRecDepth 100000 in
set_option maxHeartbeats 0 in
theorem PySem.Challenge.cw_watchedways_k08_zigzags_and_cuts_judged_holds : PySem.Challenge.rw_watchedways_k08_zigzags_and_cuts_judged.Holds := by
  w_on; o_law; k_head; (case hw => w_witness2)
  k_fill
  refine W.walk (l := PySem.Challenge.rw_watchedways_k08_zigzags_and_cuts_judged) rfl rfl (fun w h Y => PySem.W.kIn_of Y) ?F
  case F =>
    intro w mg fa h KX G hmg
    refine' W.all_mk KX G hmg ?u0 ?pg0 ?hd0 ?po0 ?sa0 ?wc0 ?wm0 ?wn0 ?wt0 ?na0_0 ?fx0_0 ?fx0_1 ?fx0_2 ?fx0_3 ?fx0_4 ?fx0_5 ?a1 ?l1 ?c1 ?k1 ?a2 ?l2 ?c2 ?k2 ?a3 ?l3 ?c3 ?k3 ?a4 ?l4 ?c4 ?k4 ?a5 ?l5 ?c5 ?k5 ?a6 ?i6 ?mk0 ?kc0 ?l6 ?c6 ?k6 ?a7 ?l7 ?c7 ?k7 ?a8 ?l8 ?c8 ?k8 ?a9 ?l9 ?c9 ?k9 ?a10 ?l10 ?c10 ?k10 ?a11 ?l11 ?c11 ?k11 ?a12 ?l12 ?c12 ?k12 ?a13 ?l13 ?c13 ?k13 ?a14 ?l14 ?c14 ?k14 ?a15 ?l15 ?c15 ?k15 ?a16 ?l16 ?c16 ?k16 ?a17 ?l17 ?c17 ?k17 ?a18 ?l18 ?c18 ?k18 ?a19 ?l19 ?c19 ?k19 ?a20 ?l20 ?c20 ?k20 ?a21 ?l21 ?c21 ?k21 ?a22 ?l22 ?c22 ?k22 ?a23 ?l23 ?c23 ?k23 ?a24 ?l24 ?c24 ?k24 ?a25 ?l25 ?c25 ?k25 ?a26 ?l26 ?c26 ?k26 ?a27 ?l27 ?c27 ?k27 ?a28 ?l28 ?c28 ?k28 ?a29 ?l29 ?c29 ?k29 ?a30 ?l30 ?c30 ?k30 ?a31 ?l31 ?c31 ?k31 ?a32 ?l32 ?c32 ?k32 ?a33 ?l33 ?c33 ?k33 ?a34 ?l34 ?c34 ?k34 ?z0 ?z1 ?z2 ?z3 ?z4 ?z5 ?z6 ?z7 ?z8 ?z9 ?z10 ?z11 ?z12 ?z13 ?z14 ?z15 ?y0 ?y1 ?y2 ?y3
    (case u0 => k_is); (case pg0 => k_is); (case hd0 => k_is); (case po0 => k_is); (case sa0 => k_is); (case wc0 => k_is); (case wm0 => k_is); (case wn0 => k_is); (case wt0 => k_is); (case na0_0 => k_is); (case fx0_0 => k_is); (case fx0_1 => k_is); (case fx0_2 => k_is); (case fx0_3 => k_is); (case fx0_4 => k_is); (case fx0_5 => k_is); (case a1 => k_is); (case l1 => k_is); (case c1 => k_is); (case k1 => k_is); (case a2 => k_is); (case l2 => k_is); (case c2 => k_is); (case k2 => k_is); (case a3 => k_is); (case l3 => k_is); (case c3 => k_is); (case k3 => k_is); (case a4 => k_is); (case l4 => k_is); (case c4 => k_is); (case k4 => k_is); (case a5 => k_is); (case l5 => k_is); (case c5 => k_is); (case k5 => k_is); (case a6 => k_is); (case i6 => k_is); (case mk0 => k_is); (case kc0 => k_is); (case l6 => k_is); (case c6 => k_is); (case k6 => k_is); (case a7 => k_is); (case l7 => k_is); (case c7 => k_is); (case k7 => k_is); (case a8 => k_is); (case l8 => k_is); (case c8 => k_is); (case k8 => k_is); (case a9 => k_is); (case l9 => k_is); (case c9 => k_is); (case k9 => k_is); (case a10 => k_is); (case l10 => k_is); (case c10 => k_is); (case k10 => k_is); (case a11 => k_is); (case l11 => k_is); (case c11 => k_is); (case k11 => k_is); (case a12 => k_is); (case l12 => k_is); (case c12 => k_is); (case k12 => k_is); (case a13 => k_is); (case l13 => k_is); (case c13 => k_is); (case k13 => k_is); (case a14 => k_is); (case l14 => k_is); (case c14 => k_is); (case k14 => k_is); (case a15 => k_is); (case l15 => k_is); (case c15 => k_is); (case k15 => k_is); (case a16 => k_is); (case l16 => k_is); (case c16 => k_is); (case k16 => k_is); (case a17 => k_is); (case l17 => k_is); (case c17 => k_is); (case k17 => k_is); (case a18 => k_is); (case l18 => k_is); (case c18 => k_is); (case k18 => k_is); (case a19 => k_is); (case l19 => k_is); (case c19 => k_is); (case k19 => k_is); (case a20 => k_is); (case l20 => k_is); (case c20 => k_is); (case k20 => k_is); (case a21 => k_is); (case l21 => k_is); (case c21 => k_is); (case k21 => k_is); (case a22 => k_is); (case l22 => k_is); (case c22 => k_is); (case k22 => k_is); (case a23 => k_is); (case l23 => k_is); (case c23 => k_is); (case k23 => k_is); (case a24 => k_is); (case l24 => k_is); (case c24 => k_is); (case k24 => k_is); (case a25 => k_is); (case l25 => k_is); (case c25 => k_is); (case k25 => k_is); (case a26 => k_is); (case l26 => k_is); (case c26 => k_is); (case k26 => k_is); (case a27 => k_is); (case l27 => k_is); (case c27 => k_is); (case k27 => k_is); (case a28 => k_is); (case l28 => k_is); (case c28 => k_is); (case k28 => k_is); (case a29 => k_is); (case l29 => k_is); (case c29 => k_is); (case k29 => k_is); (case a30 => k_is); (case l30 => k_is); (case c30 => k_is); (case k30 => k_is); (case a31 => k_is); (case l31 => k_is); (case c31 => k_is); (case k31 => k_is); (case a32 => k_is); (case l32 => k_is); (case c32 => k_is); (case k32 => k_is); (case a33 => k_is); (case l33 => k_is); (case c33 => k_is); (case k33 => k_is); (case a34 => k_is); (case l34 => k_is); (case c34 => k_is); (case k34 => k_is); (case z0 => k_is); (case z1 => k_is); (case z2 => k_is); (case z3 => k_is); (case z4 => k_is); (case z5 => k_is); (case z6 => k_is); (case z7 => k_is); (case z8 => k_is); (case z9 => k_is); (case z10 => k_is); (case z11 => k_is); (case z12 => k_is); (case z13 => k_is); (case z14 => k_is); (case z15 => k_is); (case y0 => k_is); (case y1 => k_is); (case y2 => k_is); (case y3 => k_is)
