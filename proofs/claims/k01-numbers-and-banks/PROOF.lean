import PyProof.Rows.All
import Wide.All
import OpenK.AllK
import Wide.FinOn
import PyProof.EqAt
import PyProof.EqKinds
import PyProof.TupleCall
import HandS.ForMost
import HandS.ForExc
import HandS.Wide
import HandS.IsInst
import HandS.Defaults
import HandS.SetFor
import HandS.Deep
import HandS.ExcIs
import HandS.Lambda
import HandS.EndTab
import HandS.Conv
import HandS.More
import HandS.Zip
import KE.KTupSum
import PySem.Challenge.RW_frankmeter_k01_numbers_and_banks
set_option Elab.async false
set_option linter.all false
set_option maxRecDepth 100000
set_option maxRecDepth 100000
/-! the walker's own layer: heaps, readings as steps -/
namespace Fk
open PySem PySem.Spec PyProof.Rows L2

/-! ### heaps -/
/-- all that was tracked is as it was, but for what stands at S -/
def Mx (S : List Addr) (H H' : Hp) : Prop := ∀ a o, H a = some o → a ∉ S → H' a = some o
theorem Mx.refl {S : List Addr} {H : Hp} : Mx S H H := fun _ _ h _ => h
theorem Mx.trans {S : List Addr} {H H1 H2 : Hp} (a : Mx S H H1) (b : Mx S H1 H2) : Mx S H H2 := fun c o h n => b c o (a c o h n) n
theorem Mx.mono {S T : List Addr} {H H1 : Hp} (a : Mx S H H1) (h : ∀ x ∈ S, x ∈ T) : Mx T H H1 := fun c o e n => a c o e fun z => n (h c z)
theorem Mx.of0 {S : List Addr} {H H1 : Hp} (a : Mx [] H H1) : Mx S H H1 := fun c o e n => a c o e (by simp)
theorem Mx.new {S : List Addr} {H : Hp} {p : Addr} {o : HO} (h : H p = none) : Mx S H (upd H p o) := fun a u e _ => by
  rw [upd_ne (ne_of_none e h)]; exact e
theorem Mx.put {S : List Addr} {H : Hp} {p : Addr} {o : HO} (h : p ∈ S) : Mx S H (upd H p o) := fun a u e n => by
  rw [upd_ne (fun z => n (by rw [z]; exact h))]; exact e
theorem Mx.get {S : List Addr} {H H' : Hp} {a : Addr} {o : HO} (m : Mx S H H') (n : a ∉ S) (h : H a = some o) : H' a = some o := m a o h n
theorem Mx.get0 {H H' : Hp} {a : Addr} {o : HO} (m : Mx [] H H') (h : H a = some o) : H' a = some o := m a o h (by simp)
theorem Mx.free0 {H H' : Hp} {p : Addr} (m : Mx [] H H') (h : H' p = none) : H p = none := by
  cases e : H p with
  | none => rfl
  | some o => have := m p o e (by simp); rw [h] at this; cases this
theorem Mx.free {S : List Addr} {H H' : Hp} {p : Addr} (m : Mx S H H') (h : H' p = none) (n : p ∉ S) : H p = none := by
  cases e : H p with
  | none => rfl
  | some o => have := m p o e n; rw [h] at this; cases this
theorem Mx.rd0 {H H' : Hp} {a : Addr} {u : HO} (m : Mx [] H H') (h : Rd H a u) : Rd H' a u := by
  rcases h with h | ⟨o, h⟩
  · exact .inl (m.get0 h)
  · exact .inr ⟨o, m.get0 h⟩
theorem Mx.rd {S : List Addr} {H H' : Hp} {a : Addr} {u : HO} (m : Mx S H H') (n : a ∉ S) (h : Rd H a u) : Rd H' a u := by
  rcases h with h | ⟨o, h⟩
  · exact .inl (m.get n h)
  · exact .inr ⟨o, m.get n h⟩
theorem Mx.sqL {K : PySem.W.Frag} {S : List Addr} {H H' : Hp} {a : Addr} {xs : List V} (m : Mx S H H') (n : a ∉ S) (h : SqL K H a xs) : SqL K H' a xs := by
  rcases h with h | h
  · exact .inl (m.rd n h)
  · exact .inr h
theorem Mx.sqT {K : PySem.W.Frag} {S : List Addr} {H H' : Hp} {a : Addr} {xs : List V} (m : Mx S H H') (n : a ∉ S) (h : SqT K H a xs) : SqT K H' a xs := by
  rcases h with h | h
  · exact .inl (m.rd n h)
  · exact .inr h
theorem Mx.sqL0 {K : PySem.W.Frag} {H H' : Hp} {a : Addr} {xs : List V} (m : Mx [] H H') (h : SqL K H a xs) : SqL K H' a xs := m.sqL (by simp) h
theorem Mx.sqT0 {K : PySem.W.Frag} {H H' : Hp} {a : Addr} {xs : List V} (m : Mx [] H H') (h : SqT K H a xs) : SqT K H' a xs := m.sqT (by simp) h
/-- a tuple is never among what is written -/
theorem not_tup {H : Hp} {S : List Addr} (hS : ∀ x ∈ S, ∀ ys, H x ≠ some (.tup ys)) {a : Addr} {xs : List V} (h : H a = some (.tup xs)) : a ∉ S := fun z => hS a z xs h

/-! ### small steps of a reading -/
section
variable {K : PySem.W.Frag} {σ σ' : L2.St} {H : Hp} {Q : VK} {QB : Bool → Hp → Prop} {QA : List V → Hp → Prop} {D : Ends} {v x y : V}
theorem g_var {i : Nat} (h : σ[i]? = some (some v)) (k : Q v H) : tVar i σ H Q := ⟨v, h, k⟩
theorem g_c (k : Q v H) : tC v σ H Q := k
theorem g_op {r : R2} {ta tb : TE} (k : ta σ H fun x H1 => tb σ H1 fun y H2 => r x y H2 Q) : tOp r ta tb σ H Q := k
theorem g_un {r : V → Hp → VK → Prop} {ta : TE} (k : ta σ H fun x H1 => r x H1 Q) : tUn r ta σ H Q := k
theorem g_I0 {g : Int → Int → V} {i j : Int} (k : Q (g i j) H) : rI0 g (.int i) (.int j) H Q := ⟨i, j, rfl, rfl, k⟩
theorem g_I {C : Int → Int → Prop} {g : Int → Int → V} {i j : Int} (c : C i j) (k : Q (g i j) H) : rI C g (.int i) (.int j) H Q := ⟨i, j, rfl, rfl, c, k⟩
theorem g_U {g : Int → V} {i : Int} (k : Q (g i) H) : rU g (.int i) H Q := ⟨i, rfl, k⟩
theorem g_eq (h : scal x y = true) (k : Q (.bl (decide (x = y))) H) : rEq x y H Q := ⟨h, k⟩
theorem g_ne (h : scal x y = true) (k : Q (.bl (!decide (x = y))) H) : rNe x y H Q := ⟨h, k⟩
/-- a truth value goes on as a Bool -/
def kBl (Q : Bool → Hp → Prop) : VK := fun x H' => ∃ k, x = .bl k ∧ Q k H'
theorem g_bl {b : Bool} (k : QB b H) : kBl QB (.bl b) H := ⟨b, rfl, k⟩
theorem g_test {t : TE} (k : t σ H (kBl QB)) : tTest t σ H QB := k
theorem g_tB {t : TE} (k : t σ H (kBl QB)) : tB t σ H QB := k
theorem g_not {t : TT} (k : t σ H fun c H1 => QB (!c) H1) : tNot t σ H QB := k
theorem g_and {t u : TT} (k : t σ H fun c H1 => if c = true then u σ H1 QB else QB false H1) : tAnd t u σ H QB := k
theorem g_or {t u : TT} (k : t σ H fun c H1 => if c = true then QB true H1 else u σ H1 QB) : tOr t u σ H QB := k
/-- a value that is a truth value, then one of two ways -/
def kIf (F : Bool → Hp → Prop) : VK := fun x H1 => ∃ c, x = .bl c ∧ F c H1
theorem g_kIf {F : Bool → Hp → Prop} {b : Bool} (k : F b H) : kIf F (.bl b) H := ⟨b, rfl, k⟩
theorem g_andV {ta tb : TE} (k : ta σ H (kIf fun c H1 => if c = true then tb σ H1 Q else Q (.bl false) H1)) : tAndV ta tb σ H Q := k
theorem g_orV {ta tb : TE} (k : ta σ H (kIf fun c H1 => if c = true then Q (.bl true) H1 else tb σ H1 Q)) : tOrV ta tb σ H Q := k
theorem g_notV {ta : TE} (k : ta σ H (kIf fun c H1 => Q (.bl (!c)) H1)) : tNotV ta σ H Q := k
theorem g_isN {ta : TE} (k : ta σ H fun x H1 => Q (.bl (decide (x = .non))) H1) : tIsN ta σ H Q := k
theorem g_notN {ta : TE} (k : ta σ H fun x H1 => Q (.bl (!decide (x = .non))) H1) : tNotN ta σ H Q := k
theorem g_ifE {t : TT} {ta tb : TE} (k : t σ H fun c H1 => if c = true then ta σ H1 Q else tb σ H1 Q) : tIf t ta tb σ H Q := k
theorem g_ite {b : Bool} {A B : Prop} (h1 : b = true → A) (h2 : b = false → B) : if b = true then A else B := by
  cases b with
  | true => rw [if_pos rfl]; exact h1 rfl
  | false => rw [if_neg Bool.false_ne_true]; exact h2 rfl
theorem g_yes {b : Bool} {A B : Prop} (e : b = true) (h : A) : if b = true then A else B := by rw [if_pos e]; exact h
theorem g_no {b : Bool} {A B : Prop} (e : b = false) (h : B) : if b = true then A else B := by rw [e, if_neg Bool.false_ne_true]; exact h
/-- a chain a < b < c -/
def kCh (r' : R2) (tc : TE) (σ : L2.St) (y : V) (Q : VK) : VK := fun z H3 => ∃ k, z = .bl k ∧ (if k = true then tc σ H3 fun w' H4 => r' y w' H4 Q else Q (.bl false) H3)
theorem g_kCh {r' : R2} {tc : TE} {b : Bool} (k : if b = true then tc σ H fun w' H4 => r' y w' H4 Q else Q (.bl false) H) : kCh r' tc σ y Q (.bl b) H := ⟨b, rfl, k⟩
theorem g_chain {r r' : R2} {ta tb tc : TE} (k : ta σ H fun x H1 => tb σ H1 fun y H2 => r x y H2 (kCh r' tc σ y Q)) : tChain r r' ta tb tc σ H Q := k
/-! arguments, displays -/
theorem g_nil (k : QA [] H) : tNil σ H QA := k
theorem g_cons {ta : TE} {tr : TA} (k : ta σ H fun x H1 => tr σ H1 fun xs H2 => QA (x :: xs) H2) : tCons ta tr σ H QA := k
theorem lineS {n : Nat} (h : n ≤ 100000) : n ≤ sizeLine := Nat.le_trans h (by rw [sizeLine_eq]; decide)
theorem lineL {n : Nat} (h : n < 100000) : n < sizeLine := Nat.lt_of_lt_of_le h (by rw [sizeLine_eq]; decide)
/-- a new object of content o -/
def kNew (o : List V → HO) (Q : VK) : List V → Hp → Prop := fun xs H1 => xs.length ≤ sizeLine ∧ ∀ p, H1 p = none → Q (.ref p) (upd H1 p (o xs))
theorem g_tup {t : TA} (k : t σ H (kNew .tup Q)) : tTup t σ H Q := k
theorem g_lst {t : TA} (k : t σ H (kNew .lst Q)) : tLst t σ H Q := k
theorem g_kNew {o : List V → HO} {xs : List V} (hl : xs.length ≤ 100000) (k : ∀ p H', H p = none → Mx [] H H' → H' p = some (o xs) → Q (.ref p) H') : kNew o Q xs H :=
  ⟨lineS hl, fun p hp => k p _ hp (.new hp) upd_same⟩
/-- at any free place -/
theorem g_new {o : HO} {F : Addr → Hp → Prop} (k : ∀ p H', H p = none → Mx [] H H' → H' p = some o → F p H') : ∀ p, H p = none → F p (upd H p o) := fun p hp => k p _ hp (.new hp) upd_same
/-! subscripts -/
theorem g_ixL {p : Addr} {xs : List V} {i : Int} (h : SqL K H p xs) (ha : atI xs i = some v) (k : Q v H) : rIxL K (.ref p) (.int i) H Q := ⟨p, xs, i, v, rfl, rfl, h, ha, k⟩
theorem g_ixT {p : Addr} {xs : List V} {i : Int} (h : SqT K H p xs) (ha : atI xs i = some v) (k : Q v H) : rIxT K (.ref p) (.int i) H Q := ⟨p, xs, i, v, rfl, rfl, h, ha, k⟩
theorem g_slice {r : V → Option Int → Option Int → Hp → VK → Prop} {te : TE} {tl th : TO} (k : te σ H fun x H1 => tl σ H1 fun l H2 => th σ H2 fun u H3 => r x l u H3 Q) : tSl r te tl th σ H Q := k
theorem g_noPart {QO : Option Int → Hp → Prop} (k : QO none H) : tNoPart σ H QO := k
def kPart (QO : Option Int → Hp → Prop) : VK := fun x H1 => ∃ i, x = .int i ∧ QO (some i) H1
theorem g_kPart {QO : Option Int → Hp → Prop} {i : Int} (k : QO (some i) H) : kPart QO (.int i) H := ⟨i, rfl, k⟩
theorem g_part {t : TE} {QO : Option Int → Hp → Prop} (k : t σ H (kPart QO)) : tPart t σ H QO := k
theorem g_slL {a : Addr} {xs : List V} {lo hi : Option Int} (h : SqL K H a xs) (k : ∀ p H', H p = none → Mx [] H H' → H' p = some (.lst (cutV xs lo hi)) → Q (.ref p) H') : rSlL K (.ref a) lo hi H Q :=
  ⟨a, xs, rfl, h, fun p hp => k p _ hp (.new hp) upd_same⟩
theorem g_slT {a : Addr} {xs : List V} {lo hi : Option Int} (h : SqT K H a xs) (hn : ¬ (HT.sIx xs.length 0 lo = 0 ∧ HT.sIx xs.length xs.length hi = xs.length)) (k : ∀ p H', H p = none → Mx [] H H' → H' p = some (.tup (cutV xs lo hi)) → Q (.ref p) H') : rSlT K (.ref a) lo hi H Q :=
  ⟨a, xs, rfl, h, hn, fun p hp => k p _ hp (.new hp) upd_same⟩
theorem g_cat {l b : Addr} {xs zs : List V} (h1 : H l = some (.lst xs)) (h2 : H b = some (.lst zs)) (hl : xs.length + zs.length ≤ 100000) (k : ∀ p H', H p = none → Mx [] H H' → H' p = some (.lst (xs ++ zs)) → Q (.ref p) H') : rCat (.ref l) (.ref b) H Q :=
  ⟨l, b, xs, zs, rfl, rfl, h1, h2, lineS hl, fun p hp => k p _ hp (.new hp) upd_same⟩
theorem g_rep {l : Addr} {n : Int} {xs : List V} (h1 : H l = some (.lst xs)) (h2 : 0 ≤ n) (h3 : n ≤ 1000) (hl : xs.length * n.toNat ≤ 100000) (k : ∀ p H', H p = none → Mx [] H H' → H' p = some (.lst (List.replicate n.toNat xs).flatten) → Q (.ref p) H') : rRep (.ref l) (.int n) H Q :=
  ⟨l, n, xs, rfl, rfl, h1, by omega, by omega, lineS hl, fun p hp => k p _ hp (.new hp) upd_same⟩
theorem g_setL {p : Addr} {xs : List V} {i : Int} {j : Nat} {QH : Hp → Prop} (h : H p = some (.lst xs)) (hi : ixN xs.length i = some j) (k : ∀ H', Mx [p] H H' → H' p = some (.lst (xs.set j v)) → QH H') : rSetL (.ref p) (.int i) v H QH :=
  ⟨p, xs, i, j, rfl, rfl, h, hi, k _ (.put (by simp)) upd_same⟩
/-! calls of built-ins -/
theorem g_CB {r : List V → Hp → VK → Prop} {t : TA} (k : t σ H fun vs H1 => r vs H1 Q) : tCB r t σ H Q := k
def rLen (K : PySem.W.Frag) : List V → Hp → VK → Prop := fun xs H Q => ∃ p ys, xs = [.ref p] ∧ (SqL K H p ys ∨ SqT K H p ys) ∧ Q (.int ys.length) H
theorem c_len {X : Cx} : CallR X (.builtin "len") (rLen X.K) := call_len_seq
theorem g_lenL {p : Addr} {ys : List V} (h : SqL K H p ys) (k : Q (.int (ys.length : Int)) H) : rLen K [.ref p] H Q := ⟨p, ys, rfl, .inl h, k⟩
theorem g_lenT {p : Addr} {ys : List V} (h : SqT K H p ys) (k : Q (.int (ys.length : Int)) H) : rLen K [.ref p] H Q := ⟨p, ys, rfl, .inr h, k⟩
def rListOf (K : PySem.W.Frag) : List V → Hp → VK → Prop := fun xs H Q => ∃ p ys, xs = [.ref p] ∧ (SqL K H p ys ∨ SqT K H p ys) ∧ ∀ l, H l = none → Q (.ref l) (upd H l (.lst ys))
theorem c_list {X : Cx} : CallR X (.type "list") (rListOf X.K) := call_list_of
theorem g_listL {p : Addr} {ys : List V} (h : SqL K H p ys) (k : ∀ l H', H l = none → Mx [] H H' → H' l = some (.lst ys) → Q (.ref l) H') : rListOf K [.ref p] H Q :=
  ⟨p, ys, rfl, .inl h, fun l hl => k l _ hl (.new hl) upd_same⟩
def rTupOf (K : PySem.W.Frag) : List V → Hp → VK → Prop := fun xs H Q => ∃ p ys, xs = [.ref p] ∧ ((SqL K H p ys ∧ ∀ l, H l = none → Q (.ref l) (upd H l (.tup ys))) ∨ (SqT K H p ys ∧ Q (.ref p) H))
theorem c_tuple {X : Cx} : CallR X (.type "tuple") (rTupOf X.K) := call_tuple_of
theorem g_tupleL {p : Addr} {ys : List V} (h : SqL K H p ys) (k : ∀ l H', H l = none → Mx [] H H' → H' l = some (.tup ys) → Q (.ref l) H') : rTupOf K [.ref p] H Q :=
  ⟨p, ys, rfl, .inl ⟨h, fun l hl => k l _ hl (.new hl) upd_same⟩⟩
def rMax2 : List V → Hp → VK → Prop := fun xs H Q => ∃ i j, xs = [.int i, .int j] ∧ Q (.int (if j > i then j else i)) H
theorem c_max {X : Cx} (hc : X.calm = true) : CallR X (.builtin "max") rMax2 := call_max2 hc
theorem g_max {i j : Int} (k : Q (.int (if j > i then j else i)) H) : rMax2 [.int i, .int j] H Q := ⟨i, j, rfl, k⟩
def rMin2 : List V → Hp → VK → Prop := fun xs H Q => ∃ i j, xs = [.int i, .int j] ∧ Q (.int (if j < i then j else i)) H
theorem c_min {X : Cx} (hc : X.calm = true) : CallR X (.builtin "min") rMin2 := call_min2 hc
theorem g_min {i j : Int} (k : Q (.int (if j < i then j else i)) H) : rMin2 [.int i, .int j] H Q := ⟨i, j, rfl, k⟩
def rInt1 : List V → Hp → VK → Prop := fun xs H Q => (∃ i, xs = [.int i] ∧ Q (.int i) H) ∨ ∃ k, xs = [.bl k] ∧ Q (.int (if k then 1 else 0)) H
theorem c_int {X : Cx} : CallR X (.type "int") rInt1 := call_int1
theorem g_intB {b : Bool} (k : Q (.int (if b then 1 else 0)) H) : rInt1 [.bl b] H Q := .inr ⟨b, rfl, k⟩
/-! fields -/
def kFld (K : PySem.W.Frag) (f : Str) (Q : VK) : VK := fun x H1 => ∃ a C dx fs v, x = .ref a ∧ H1 a = some (.ins C dx fs) ∧ Cls K C ∧ NoAttr K C f ∧ fs.lookup f = some v ∧ Q v H1
theorem g_fld {ta : TE} {f : Str} (k : ta σ H (kFld K f Q)) : tFld K ta f σ H Q := k
theorem g_kFld {f : Str} {a C dx : Addr} {fs : List (Str × V)} (h : H a = some (.ins C dx fs)) (c : Cls K C) (n : NoAttr K C f) (l : fs.lookup f = some v) (k : Q v H) : kFld K f Q (.ref a) H := ⟨a, C, dx, fs, v, rfl, h, c, n, l, k⟩
def kPut (K : PySem.W.Frag) (f : Str) (y : V) (N : Hp → Prop) : VK := fun x H2 => ∃ a C dx fs, x = .ref a ∧ H2 a = some (.ins C dx fs) ∧ Cls K C ∧ NoAttr K C f ∧ fs.length < 1000 ∧ N (upd H2 a (.ins C dx (putF f y fs)))
theorem g_put {ta tv : TE} {f : Str} (k : tv σ H fun y H1 => ta σ H1 (kPut K f y fun H3 => D.nx σ H3)) : sFld K ta tv f D σ H := k
theorem g_kPut {f : Str} {a C dx : Addr} {fs fs' : List (Str × V)} {N : Hp → Prop} (h : H a = some (.ins C dx fs)) (c : Cls K C) (n : NoAttr K C f) (e : putF f y fs = fs') (hl : fs.length < 1000)
    (k : ∀ H', Mx [a] H H' → H' a = some (.ins C dx fs') → N H') : kPut K f y N (.ref a) H := ⟨a, C, dx, fs, rfl, h, c, n, hl, by rw [e]; exact k _ (.put (by simp)) upd_same⟩
/-! dicts -/
def kDGet (x : V) (Q : VK) : VK := fun y H2 => ∃ a v, x = .ref a ∧ DGet H2 a y (some v) ∧ Q v H2
theorem g_dget {td ty : TE} (k : td σ H fun x H1 => ty σ H1 (kDGet x Q)) : tDGet td ty σ H Q := k
theorem g_kDGetS {a : Addr} {z : Str} {kvs : List (Key × V)} (h : H a = some (.dK kvs)) (l : valV kvs (Sum.inr z) = some v) (k : Q v H) : kDGet (.ref a) Q (.str z) H := ⟨a, v, rfl, l ▸ DGet.k (k := Sum.inr z) h, k⟩
theorem g_kDGetI {a : Addr} {z : Int} {kvs : List (Key × V)} (h : H a = some (.dK kvs)) (l : valV kvs (Sum.inl z) = some v) (k : Q v H) : kDGet (.ref a) Q (.int z) H := ⟨a, v, rfl, l ▸ DGet.k (k := Sum.inl z) h, k⟩
theorem g_kDGetIr {a : Addr} {z : Int} {kvs : List (Key × V)} (h : Rd H a (.dK kvs)) (l : valV kvs (Sum.inl z) = some v) (k : Q v H) : kDGet (.ref a) Q (.int z) H := ⟨a, v, rfl, l ▸ .inl ⟨kvs, Sum.inl z, h, rfl, rfl⟩, k⟩
/-! statements -/
theorem g_seq {t u : TS} (k : t { D with nx := u D } σ H) : tSeq t u D σ H := k
theorem g_next (k : D.nx σ H) : tNext D σ H := k
theorem g_asg {te : TE} {g : TG} (k : te σ H fun x H1 => g x σ H1 D.nx) : tAsg te g D σ H := k
theorem g_name {i : Nat} {QS : L2.St → Hp → Prop} (k : QS (σ.set i (some v)) H) : gName i v σ H QS := k
theorem g_drop {te : TE} (k : te σ H fun _ H1 => D.nx σ H1) : tDrop te D σ H := k
theorem g_ret {te : TE} (k : te σ H D.rt) : tRet te D σ H := k
theorem g_retN (k : D.rt .non H) : tRetN D σ H := k
theorem g_if {c : TT} {t u : TS} (k : c σ H fun b H1 => if b = true then t D σ H1 else u D σ H1) : tIfS c t u D σ H := k
theorem g_sub {to ti : TE} {t : TSet} {QS : L2.St → Hp → Prop} (k : to σ H fun o H1 => ti σ H1 fun i H2 => t o i v H2 fun H3 => QS σ H3) : gSub to ti t v σ H QS := k
theorem g_gtup {n : Nat} {t : TGs} {a : Addr} {xs : List V} {QS : L2.St → Hp → Prop} (h : SqT K H a xs) (hl : xs.length = n) (k : t xs σ H QS) : gTup K n t (.ref a) σ H QS := ⟨a, xs, rfl, h, hl, k⟩
theorem g_gcons {t : TG} {u : TGs} {r : List V} {QS : L2.St → Hp → Prop} (k : t v σ H fun σ' H' => u r σ' H' QS) : gCons t u (v :: r) σ H QS := ⟨v, r, rfl, k⟩
theorem g_gnil {QS : L2.St → Hp → Prop} (k : QS σ H) : gNil [] σ H QS := ⟨rfl, k⟩
/-! calls of the text's own defs -/
theorem g_call {sp : Sp} {dvs : List V} {E : XK} {t : TA} (k : t σ H fun vs H1 => sp (vs ++ dvs) H1 Q E) : tCall sp dvs E t σ H Q := k
def kMeth (C : Addr) (m : Str) (sp : Sp) (dvs : List V) (E : XK) (t : TA) (σ : L2.St) (Q : VK) : VK := fun x H1 => ∃ a dx fs, x = .ref a ∧ H1 a = some (.ins C dx fs) ∧ fs.lookup m = none ∧ t σ H1 fun vs H2 => sp (x :: (vs ++ dvs)) H2 Q E
theorem g_meth {C : Addr} {m : Str} {sp : Sp} {dvs : List V} {E : XK} {ta : TE} {t : TA} (k : ta σ H (kMeth C m sp dvs E t σ Q)) : tMeth C m sp dvs E ta t σ H Q := k
theorem g_kMeth {C a dx : Addr} {m : Str} {sp : Sp} {dvs : List V} {E : XK} {t : TA} {fs : List (Str × V)} (h : H a = some (.ins C dx fs)) (l : fs.lookup m = none) (k : t σ H fun vs H2 => sp (.ref a :: (vs ++ dvs)) H2 Q E) : kMeth C m sp dvs E t σ Q (.ref a) H := ⟨a, dx, fs, rfl, h, l, k⟩
/-! methods of built-in types -/
def kBM (K : PySem.W.Frag) (T : String) (r : V → List V → Hp → VK → Prop) (t : TA) (σ : L2.St) (Q : VK) : VK := fun x H1 => tyV K T x H1 ∧ t σ H1 fun xs H2 => r x xs H2 Q
theorem g_bm {T : String} {r : V → List V → Hp → VK → Prop} {to : TE} {t : TA} (k : to σ H (kBM K T r t σ Q)) : tBM K T r to t σ H Q := k
theorem g_kBM {r : V → List V → Hp → VK → Prop} {t : TA} {p : Addr} {xs : List V} (h : SqL K H p xs) (k : t σ H fun xs H2 => r (.ref p) xs H2 Q) : kBM K "list" r t σ Q (.ref p) H := ⟨.inl ⟨rfl, xs, h⟩, k⟩
def kBM0 (K : PySem.W.Frag) (T : String) (r : V → List V → Hp → VK → Prop) (Q : VK) : VK := fun x H1 => tyV K T x H1 ∧ r x [] H1 Q
theorem g_bm0 {T : String} {r : V → List V → Hp → VK → Prop} {to : TE} (k : to σ H (kBM0 K T r Q)) : tBM0 K T r to σ H Q := k
theorem g_kBM0 {r : V → List V → Hp → VK → Prop} {p : Addr} {xs : List V} (h : SqL K H p xs) (k : r (.ref p) [] H Q) : kBM0 K "list" r Q (.ref p) H := ⟨.inl ⟨rfl, xs, h⟩, k⟩
theorem g_append {l : Addr} {xs : List V} (h : H l = some (.lst xs)) (hl : xs.length < 100000) (k : ∀ H', Mx [l] H H' → H' l = some (.lst (xs ++ [y])) → Q .non H') : rAppend (.ref l) [y] H Q :=
  ⟨l, xs, y, rfl, rfl, h, lineL hl, k _ (.put (by simp)) upd_same⟩
theorem g_reverse {l : Addr} {xs : List V} (h : H l = some (.lst xs)) (k : ∀ H', Mx [l] H H' → H' l = some (.lst xs.reverse) → Q .non H') : rReverse (.ref l) [] H Q := ⟨l, xs, rfl, rfl, h, k _ (.put (by simp)) upd_same⟩
theorem g_clear {l : Addr} {xs : List V} (h : H l = some (.lst xs)) (k : ∀ H', Mx [l] H H' → H' l = some (.lst []) → Q .non H') : rClear (.ref l) [] H Q := ⟨l, xs, rfl, rfl, h, k _ (.put (by simp)) upd_same⟩
end
end Fk

set_option maxRecDepth 100000
namespace Fk
open PySem PySem.Spec PyProof.Rows L2
/-! ### what the text says of a def, a method, an error class -/
/-- a def of the module, called by its name -/
structure Cl (P : Program) (w : World) (K : PySem.W.Frag) (mg : Str → Option Value) (base : Heap) (k : Nat) (x : Str) (sp : Sp) (dvs : List V) : Prop where
  ex : ∃ (f : Addr) (fd : FuncData) (ps : List Str) (ds : List Value), FnOk P w K mg base (L2.CX P w) k f fd ps sp ∧ mg x = some (.ref f) ∧ PySem.W.keepIn K (.ref f) = true ∧ Binds K fd ps ds ∧ Vals dvs ds
/-- a method of the class at C -/
structure Me (P : Program) (w : World) (K : PySem.W.Frag) (mg : Str → Option Value) (base : Heap) (k : Nat) (C : Addr) (m : Str) (sp : Sp) (dvs : List V) : Prop where
  ex : ∃ (f : Addr) (fd : FuncData) (ps : List Str) (ds : List Value), Cls K C ∧ Meth K C m f ∧ FnOk P w K mg base (L2.CX P w) k f fd ps sp ∧ Binds K fd ps ds ∧ Vals dvs ds
/-- a class made by its name -/
structure Ma (P : Program) (w : World) (K : PySem.W.Frag) (mg : Str → Option Value) (base : Heap) (k : Nat) (x : Str) (C : Addr) (sp : Sp) (dvs : List V) : Prop where
  ex : ∃ (f : Addr) (fd : FuncData) (ps : List Str) (ds : List Value), Mk K C f ∧ FnOk P w K mg base (L2.CX P w) k f fd ps sp ∧ mg x = some (.ref C) ∧ Binds K fd ps ds ∧ Vals dvs ds
section
variable {X : Cx} {k j : Nat} {C : Addr} {x m : Str} {sp : Sp} {dvs : List V} {E : XK} {p pos apos : Pos} {e o : Expr} {es : List Expr} {ta : TE} {t : TA}
theorem q_call (c : Cl X.prog X.w X.K X.mg X.base k x sp dvs) (hr : Room j X.A) (hk : k ≤ j) (hg : Gl X x) (hx : Passes (L2.CX X.prog X.w) X E) (ha : PA X (e :: es) t)
    (hdb : (x == ("__debug__" : Str)) = false := by decide) (he : starEach (e :: es) X.env = (false, eval e X.env) :: starEach es X.env := by rfl) (hpl : (backTo pos (starEach es X.env)).any (·.1) = false := by rfl) :
    PE X (.Call (.Name x p) (e :: es) [] pos) (tCall sp dvs E t) := by
  obtain ⟨f, fd, ps, ds, F, hm, hk', hb, hd⟩ := c.ex
  exact pe_call F (hr.mono hk) hg hm hk' hb hd hx ha hdb he hpl
theorem q_call0 (c : Cl X.prog X.w X.K X.mg X.base k x sp dvs) (hr : Room j X.A) (hk : k ≤ j) (hg : Gl X x) (hx : Passes (L2.CX X.prog X.w) X E)
    (hdb : (x == ("__debug__" : Str)) = false := by decide) : PE X (.Call (.Name x p) [] [] pos) (tCall sp dvs E tNil) := by
  obtain ⟨f, fd, ps, ds, F, hm, hk', hb, hd⟩ := c.ex
  exact pe_call0 F (hr.mono hk) hg hm hk' hb hd hx hdb
theorem q_make (c : Ma X.prog X.w X.K X.mg X.base k x C sp dvs) (hr : Room j X.A) (hk : k + 1 ≤ j) (hg : Gl X x) (hx : Passes (L2.CX X.prog X.w) X E) (ha : PA X (e :: es) t)
    (hdb : (x == ("__debug__" : Str)) = false := by decide) (he : starEach (e :: es) X.env = (false, eval e X.env) :: starEach es X.env := by rfl) (hpl : (backTo pos (starEach es X.env)).any (·.1) = false := by rfl) :
    PE X (.Call (.Name x p) (e :: es) [] pos) (tMake C sp dvs E t) := by
  obtain ⟨f, fd, ps, ds, M, F, hm, hb, hd⟩ := c.ex
  exact pe_make M F (hr.mono hk) hg hm hb hd hx ha hdb he hpl
theorem q_meth {pl : Sem Bool} (c : Me X.prog X.w X.K X.mg X.base k C m sp dvs) (hr : Room j X.A) (hk : k ≤ j) (he : PE X o ta) (hx : Passes (L2.CX X.prog X.w) X E) (ha : PA X (e :: es) t)
    (hst : starEach (e :: es) X.env = (false, eval e X.env) :: starEach es X.env := by rfl) (hpl : (backTo pos (starEach es X.env)).any (·.1) = false := by rfl)
    (ht : eval (.Call (.Attribute o m apos) (e :: es) [] pos) X.env = (do
      let ov ← eval o X.env
      standAt apos.atName
      let (f, first) ← holding [ov] (getMethod ov m pl)
      callWith pos f first (backTo pos (starEach (e :: es) X.env)) (backToKw pos (keywordEach [] X.env))) := by rfl) :
    PE X (.Call (.Attribute o m apos) (e :: es) [] pos) (tMeth C m sp dvs E ta t) := by
  obtain ⟨f, fd, ps, ds, cl, hm, F, hb, hd⟩ := c.ex
  exact pe_meth he cl hm F (hr.mono hk) hb hd hx ha hst hpl ht
theorem q_meth0 {pl : Sem Bool} (c : Me X.prog X.w X.K X.mg X.base k C m sp dvs) (hr : Room j X.A) (hk : k ≤ j) (he : PE X o ta) (hx : Passes (L2.CX X.prog X.w) X E)
    (ht : eval (.Call (.Attribute o m apos) [] [] pos) X.env = (do
      let ov ← eval o X.env
      standAt apos.atName
      let (f, first) ← holding [ov] (getMethod ov m pl)
      callWith pos f first (backTo pos (starEach [] X.env)) (backToKw pos (keywordEach [] X.env))) := by rfl) :
    PE X (.Call (.Attribute o m apos) [] [] pos) (tMeth C m sp dvs E ta tNil) := by
  obtain ⟨f, fd, ps, ds, cl, hm, F, hb, hd⟩ := c.ex
  exact pe_meth0 he cl hm F (hr.mono hk) hb hd hx ht
end
/-- an own error class over ValueError without an __init__ -/
structure ExF (K : PySem.W.Frag) (mg : Str → Option Value) (x : Str) (C : Addr) : Prop where
  g : mg x = some (.ref C)
  xq : PySem.W.excIn K C [.type "ValueError", .type "Exception", .type "BaseException", .type "object"] "ValueError.__new__" = true
  k : PySem.W.keepIn K (.ref C) = true
  b : PySem.W.subIn K (.ref C) (.type "BaseException") = some true
  t : PySem.W.typeIn K (.ref C) = some (.type "type")
def tRaiseC (C : Addr) (W : WX) : TS := fun _ σ H => W (.ref C) none σ H
section
variable {X : Cx} {C : Addr} {W : WX} {x m : Str} {j : Nat} {p p2 pos pos2 : Pos}
theorem q_raise (hc : X.calm = true) (tk : Takes X W) (F : ExF X.K X.mg x C) (hg : Gl X x) (hdb : (x == ("__debug__" : Str)) = false := by decide) : PS X (.Raise (some (.Call (.Name x p) [.Constant (.str m) j p2] [] pos)) none pos2) (tRaiseC C W) :=
  ps_raise hc tk (pmk_own PySem.F.excBase_ValueError F.xq F.g F.k (raises_own F.b F.t) hg hdb)
end
theorem g_raise {C : Addr} {W : WX} {D : Ends} {σ : L2.St} {H : Hp} (k : W (.ref C) none σ H) : tRaiseC C W D σ H := k
/-- the text's facts of a def of the module -/
structure FnF (K : PySem.W.Frag) (mg : Str → Option Value) (x : Str) (st : Stmt) (ps : List Str) where
  a : Addr
  d : FuncData
  F : Fun K x x st a d
  g : mg x = some (.ref a)
  b : Binds K d ps []
/-- .. of a method of the class at C -/
structure MeF (K : PySem.W.Frag) (C : Addr) (m qual : Str) (st : Stmt) (ps : List Str) where
  a : Addr
  d : FuncData
  F : Fun K m qual st a d
  m : Meth K C m a
  b : Binds K d ps []
/-- .. of a method whose last parameter may be left out (None then) -/
structure MdF (K : PySem.W.Frag) (C : Addr) (m qual : Str) (st : Stmt) (ps : List Str) where
  a : Addr
  d : FuncData
  F : FunD K m qual (defArgs st) (defBody st) (defScope st) [.non] [] a d
  m : Meth K C m a
  b : Binds K d ps []
  b1 : ∃ ds, Vals [.non] ds ∧ Binds K d ps ds
section
variable {P : Program} {w : World} {K : PySem.W.Frag} {mg : Str → Option Value} {base : Heap} {x m qual : Str} {st : Stmt} {ps N : List Str} {C : Addr} {k : Nat} {sp : Sp}
theorem FnF.cl (F : FnF K mg x st ps) (S : FnScope N ps (defScope st)) (len : ∀ vs H Q E, sp vs H Q E → vs.length = ps.length)
    (hbody : ∀ (cdv : Value) (A : Around) (outer : List Env) (s : Shared) (H : Hp) (vs : List V) (Q : VK) (E : XK), Room k (A.deeper (envOfC x (defScope st) s.heap.objs.size F.a cdv)) → sp vs H Q E →
      ∃ t, PSs (cxOf (L2.CX P w) P w K mg base N x (defScope st) F.a cdv A outer s H E) (defBody st) t ∧ t { nx := fun _ H' => Q .non H', rt := Q } (start N vs) H) : Cl P w K mg base (k + 1) x sp [] :=
  ⟨F.a, F.d, ps, [], F.F.okX S len hbody, F.g, F.F.kp, F.b, .nil⟩
theorem MeF.me (F : MeF K C m qual st ps) (c : Cls K C) (S : FnScope N ps (defScope st)) (len : ∀ vs H Q E, sp vs H Q E → vs.length = ps.length)
    (hbody : ∀ (cdv : Value) (A : Around) (outer : List Env) (s : Shared) (H : Hp) (vs : List V) (Q : VK) (E : XK), Room k (A.deeper (envOfC qual (defScope st) s.heap.objs.size F.a cdv)) → sp vs H Q E →
      ∃ t, PSs (cxOf (L2.CX P w) P w K mg base N qual (defScope st) F.a cdv A outer s H E) (defBody st) t ∧ t { nx := fun _ H' => Q .non H', rt := Q } (start N vs) H) : Me P w K mg base (k + 1) C m sp [] :=
  ⟨F.a, F.d, ps, [], c, F.m, F.F.okX S len hbody, F.b, .nil⟩
theorem MdF.ok (F : MdF K C m qual st ps) (S : FnScope N ps (defScope st)) (len : ∀ vs H Q E, sp vs H Q E → vs.length = ps.length)
    (hbody : ∀ (cdv : Value) (A : Around) (outer : List Env) (s : Shared) (H : Hp) (vs : List V) (Q : VK) (E : XK), Room k (A.deeper (envOfC qual (defScope st) s.heap.objs.size F.a cdv)) → sp vs H Q E →
      ∃ t, PSs (cxOf (L2.CX P w) P w K mg base N qual (defScope st) F.a cdv A outer s H E) (defBody st) t ∧ t { nx := fun _ H' => Q .non H', rt := Q } (start N vs) H) : FnOk P w K mg base (L2.CX P w) (k + 1) F.a F.d ps sp :=
  F.F.ok S len hbody
theorem MdF.me (F : MdF K C m qual st ps) (c : Cls K C) (h : FnOk P w K mg base (L2.CX P w) k F.a F.d ps sp) : Me P w K mg base k C m sp [] := ⟨F.a, F.d, ps, [], c, F.m, h, F.b, .nil⟩
theorem MdF.me1 (F : MdF K C m qual st ps) (c : Cls K C) (h : FnOk P w K mg base (L2.CX P w) k F.a F.d ps sp) : Me P w K mg base k C m sp [.non] := by
  obtain ⟨ds, v, b⟩ := F.b1
  exact ⟨F.a, F.d, ps, ds, c, F.m, h, b, v⟩
end
end Fk

set_option maxRecDepth 100000
namespace Fk
open PySem PySem.Spec PyProof.Rows L2
/-! ### constants of the module -/
theorem q_const {X : Cx} {x : Str} {i : Int} {pos : Pos} (h : ∃ t, X.mg x = some (.int i t)) (hg : Gl X x) (hd : (x == ("__debug__" : Str)) = false := by decide) : PE X (.Name x pos) (tC (.int i)) := by
  obtain ⟨t, h⟩ := h
  exact pe_glob hg h ⟨t, rfl⟩ hd
/-! ### rules with the written part named -/
section
variable {X : Cx} (K : PySem.W.Frag)
theorem ixL (e : X.K = K := by rfl) : IxR X (rIxL K) := e ▸ ix_list
theorem ixT (e : X.K = K := by rfl) : IxR X (rIxT K) := e ▸ ix_tup
theorem slL (e : X.K = K := by rfl) : SlR X (rSlL K) := e ▸ sl_list
theorem slT (e : X.K = K := by rfl) : SlR X (rSlT K) := e ▸ sl_tup
theorem opIn (e : X.K = K := by rfl) : OpR X (compareOp .In) (rIn K false) := e ▸ op_in_seq
theorem opNin (e : X.K = K := by rfl) : OpR X (compareOp .NotIn) (rIn K true) := e ▸ op_notIn_seq
theorem opEqD (hu : X.A.units + 64 < cLine) (e : X.K = K := by rfl) : OpR X (compareOp .Eq) (rEqD K) := e ▸ op_eqD hu
theorem opNeD (hu : X.A.units + 64 < cLine) (e : X.K = K := by rfl) : OpR X (compareOp .NotEq) (rNeD K) := e ▸ op_neD hu
theorem opCatT (e : X.K = K := by rfl) : OpR X (binaryOp .Add) (rCatT K) := e ▸ op_catT
theorem cLen (e : X.K = K := by rfl) : CallR X (.builtin "len") (rLen K) := e ▸ c_len
theorem cList (e : X.K = K := by rfl) : CallR X (.type "list") (rListOf K) := e ▸ c_list
theorem cTuple (e : X.K = K := by rfl) : CallR X (.type "tuple") (rTupOf K) := e ▸ c_tuple
theorem fldK {e : Expr} {f : Str} {pos : Pos} {ta : TE} (he : PE X e ta) (hb : attributeBase e f X.env (eval e X.env) = eval e X.env) (ek : X.K = K := by rfl) : PE X (.Attribute e f pos) (tFld K ta f) := ek ▸ pe_fld he hb
theorem piL {tg l : Expr} {tl : TE} (hl : PE X l tl) (e : X.K = K := by rfl) : PI X tg l (iList K tl) := e ▸ pi_list hl
theorem piT {tg l : Expr} {tl : TE} (hl : PE X l tl) (e : X.K = K := by rfl) : PI X tg l (iTup K tl) := e ▸ pi_tup hl
theorem pgT (n : Nat) {es : List Expr} {k : Nat} {t : TGs} {pos : Pos} (hc : X.calm = true) (h : PGs X es t) (e : X.K = K := by rfl)
    (hn : (assignEach es X.env).length = n := by rfl) (hst : (assignEach es X.env).findIdx? (·.1) = none := by rfl) : PG X (.Tuple es k pos) (gTup K n t) := e ▸ pg_tup hc h hn hst
theorem bmK0 {o : Expr} {to : TE} {name : Str} {apos cpos : Pos} {T id : String} {r : V → List V → Hp → VK → Prop} (pa : PlainAttrs T) (slot : Slot T name id) (hty : typeOf (.builtin id) = pure (.type "method_descriptor")) (hm : MtR X id r) (ho : PE X o to) (ek : X.K = K := by rfl)
    (hbase : attributeBase o name X.env (eval o X.env) = eval o X.env := by rfl) (hline : (apos.endLine == cpos.line) = true := by rfl) : PE X (.Call (.Attribute o name apos) [] [] cpos) (tBM0 K T r to) := ek ▸ pe_bm0 pa slot hty hm ho hbase hline
theorem bmK {o e : Expr} {es : List Expr} {to : TE} {t : TA} {name : Str} {apos cpos : Pos} {T id : String} {r : V → List V → Hp → VK → Prop} (pa : PlainAttrs T) (slot : Slot T name id) (hty : typeOf (.builtin id) = pure (.type "method_descriptor")) (hm : MtR X id r) (ho : PE X o to) (ha : PA X (e :: es) t) (ek : X.K = K := by rfl)
    (hbase : attributeBase o name X.env (eval o X.env) = eval o X.env := by rfl)
    (hfew : ((backTo cpos (starEach (e :: es) X.env)).all (fun x => !x.1) && (backToKw cpos (keywordEach [] X.env)).all (fun x => x.1.isSome)
      && decide ((e :: es).length + ([] : List Keyword).length + (if ([] : List Keyword).isEmpty then 0 else 1) < 30)) = true := by rfl)
    (hline : (apos.endLine == cpos.line) = true := by rfl) (hs : starEach (e :: es) X.env = (false, eval e X.env) :: starEach es X.env := by rfl) (hplain : (backTo cpos (starEach es X.env)).any (·.1) = false := by rfl) :
    PE X (.Call (.Attribute o name apos) (e :: es) [] cpos) (tBM K T r to t) := ek ▸ pe_bm pa slot hty hm ho ha hbase hfew hline hs hplain
theorem psFld {o value : Expr} {f : Str} {pos pos' : Pos} {ta tv : TE} (ha : PE X o ta) (hv : PE X value tv) (hs : swapsWith value (some (.Attribute o f pos')) pos.line X.env = pure false) (ek : X.K = K := by rfl) : PS X (.Assign [.Attribute o f pos'] value pos) (sFld K ta tv f) := ek ▸ ps_fld ha hv hs
end
/-! ### numbers that are great, but not too great -/
theorem mulS {i j : Int} (hi : i.natAbs < 2 ^ 1000) (hj : j.natAbs < 2 ^ 1000) : CMulW i j := wide_mul hi hj (by omega) (by omega) (by omega)
theorem divS {i j : Int} (h : 0 < j) (hj : j.natAbs < 2 ^ 1000) : CDivW i j := wide_div h hj (by omega) (by omega)
/-! ### cells -/
/-- the i-th cell -/
def cl (cs : List Int) (i : Nat) : Int := cs.getD i 0
theorem cl_at {cs : List Int} {i : Nat} (h : i < cs.length) : (cs.map V.int)[i]? = some (.int (cl cs i)) := by
  rw [List.getElem?_map, List.getElem?_eq_getElem h]
  simp [cl, List.getD, h]
theorem cl_atE {cs : List Int} {i : Int} {n : Nat} (e : i = (n : Int)) (h : n < cs.length) : atI (cs.map V.int) i = some (.int (cl cs n)) := by
  subst e; exact atI_nat (cl_at h)
section
variable {K : PySem.W.Frag} {σ σ' : L2.St} {H : Hp} {Q : VK} {QA : List V → Hp → Prop} {D : Ends} {v x y : V} {R : It → Hp → Prop}
def kPar (i j : Nat) (D : Ends) (σ : L2.St) : List V → Hp → Prop := fun vs H1 => ∃ v w, vs = [v, w] ∧ D.nx ((σ.set i (some v)).set j (some w)) H1
theorem g_par {i j : Nat} {ta : TA} (k : ta σ H (kPar i j D σ)) : tPar i j ta D σ H := k
theorem g_kPar {i j : Nat} (k : D.nx ((σ.set i (some x)).set j (some y)) H) : kPar i j D σ [x, y] H := ⟨x, y, rfl, k⟩
/-! ### what is walked -/
def kR1 (R : It → Hp → Prop) : List V → Hp → Prop := fun vs H1 => ∃ j : Int, vs = [.int j] ∧ -(2 ^ 62) ≤ j ∧ j < 2 ^ 62 ∧ R (Itr 0 j.toNat) H1
theorem g_iR1 {ta : TA} (k : ta σ H (kR1 R)) : iRng1 ta σ H R := k
theorem g_kR1 {n : Int} (h0 : 0 ≤ n) (h1 : n ≤ 100000) (k : R (Itr 0 n.toNat) H) : kR1 R [.int n] H := ⟨n, rfl, by omega, by omega, k⟩
def kR2 (R : It → Hp → Prop) : List V → Hp → Prop := fun vs H1 => ∃ i j : Int, vs = [.int i, .int j] ∧ (-(2 ^ 62) ≤ i ∧ i < 2 ^ 62 ∧ -(2 ^ 62) ≤ j ∧ j < 2 ^ 62) ∧ R (Itr i (j - i).toNat) H1
theorem g_iR2 {ta : TA} (k : ta σ H (kR2 R)) : iRng2 ta σ H R := k
theorem g_kR2 {i j : Int} (h0 : -100000 ≤ i) (h1 : i ≤ 100000) (h2 : -100000 ≤ j) (h3 : j ≤ 100000) (k : R (Itr i (j - i).toNat) H) : kR2 R [.int i, .int j] H := ⟨i, j, rfl, ⟨by omega, by omega, by omega, by omega⟩, k⟩
def kL (K : PySem.W.Frag) (R : It → Hp → Prop) : VK := fun x H1 => ∃ a, x = .ref a ∧ (∃ xs, SqL K H1 a xs) ∧ R (Itl K a) H1
theorem g_iL {tl : TE} (k : tl σ H (kL K R)) : iList K tl σ H R := k
theorem g_kL {a : Addr} {xs : List V} (h : SqL K H a xs) (k : R (Itl K a) H) : kL K R (.ref a) H := ⟨a, rfl, ⟨xs, h⟩, k⟩
/-! ### for -/
def kFor (g : TG) (tb : TS) (D : Ends) (σ : L2.St) : It → Hp → Prop := fun J H1 => ∃ W : Nat → Nat → L2.St → Hp → Prop, (∃ m, W 0 m σ H1) ∧ ∀ i m σ H, W i m σ H →
  (J.stop i H ∧ D.nx σ H) ∨ (J.go i H ∧ ∃ N : L2.St → Hp → Prop, (∀ σ' H', N σ' H' → ∃ m', m' < m ∧ W (i + 1) m' σ' H') ∧ ∀ x H', J.yld i H x H' → g x σ H' fun σ2 H2 => tb { D with nx := N, ct := N, bk := D.nx } σ2 H2)
theorem g_for {wi : TI} {g : TG} {tb : TS} (k : wi σ H (kFor g tb D σ)) : tFor wi g tb D σ H := k
theorem g_forR {lo : Int} {n : Nat} {g : TG} {tb : TS} (Pv : Nat → L2.St → Hp → Prop) (h0 : Pv 0 σ H)
    (hs : ∀ i σ H, i < n → Pv i σ H → g (.int (lo + i)) σ H fun σ2 H2 => tb { D with nx := Pv (i + 1), ct := Pv (i + 1), bk := D.nx } σ2 H2) (hd : ∀ σ H, Pv n σ H → D.nx σ H) : kFor g tb D σ (Itr lo n) H :=
  for_range Pv h0 hs hd
theorem g_forL {a : Addr} {xs : List V} {g : TG} {tb : TS} (Pv : Nat → L2.St → Hp → Prop) (h0 : Pv 0 σ H) (hl : ∀ i σ H, i ≤ xs.length → Pv i σ H → SqL K H a xs)
    (hs : ∀ i x σ H, xs[i]? = some x → Pv i σ H → g x σ H fun σ2 H2 => tb { D with nx := Pv (i + 1), ct := Pv (i + 1), bk := D.nx } σ2 H2) (hd : ∀ σ H, Pv xs.length σ H → D.nx σ H) : kFor g tb D σ (Itl K a) H :=
  for_list Pv h0 hl hs hd
/-! ### comprehensions -/
def kLc (g : TG) (tt : TT) (te : TE) (vs : List Nat) (σ : L2.St) (Q : VK) : It → Hp → Prop := fun J H1 => ∀ D, H1 D = none → ∃ W : Nat → Nat → Hp → Prop, (∃ m, W 0 m (upd H1 D (.lst []))) ∧ ∀ i m H, W i m H →
  (J.stop i H ∧ Q (.ref D) H) ∨ (J.go i H ∧ ∃ Nx : Hp → Prop, (∀ H', Nx H' → ∃ m', m' < m ∧ W (i + 1) m' H') ∧ ∀ x H', J.yld i H x H' → g x (wipe σ vs) H' fun σ2 H2 => wipe σ2 vs = wipe σ vs ∧ tt σ2 H2 fun b H3 =>
    if b = true then te σ2 H3 fun y H4 => ∃ acc, H4 D = some (.lst acc) ∧ acc.length < sizeLine ∧ Nx (upd H4 D (.lst (acc ++ [y]))) else Nx H3)
theorem g_lc {wi : TI} {g : TG} {tt : TT} {te : TE} {vs : List Nat} (k : wi σ H (kLc g tt te vs σ Q)) : tLc wi g tt te vs σ H Q := k
theorem upd_Mx {H H' : Hp} {p : Addr} {o : HO} (h : H p = none) (m : Mx [] H H') : Mx [] H (upd H' p o) := fun a u e _ => by
  rw [upd_ne (ne_of_none e h)]; exact m a u e (by simp)
theorem range_fm {α : Type} (f : Nat → Option α) (i : Nat) : (List.range (i + 1)).filterMap f = (List.range i).filterMap f ++ (match f i with | some y => [y] | none => []) := by
  rw [List.range_succ, List.filterMap_append]
  congr 1
  cases h : f i <;> simp [List.filterMap, h]
theorem fm_len {α : Type} (f : Nat → Option α) (n : Nat) : ((List.range n).filterMap f).length ≤ n := by
  refine Nat.le_trans (List.length_filterMap_le _ _) ?_
  rw [List.length_range]; exact Nat.le_refl _
/-- one turn's test and item, nothing written -/
def LcTurn (tt : TT) (te : TE) (σ : L2.St) (H : Hp) (o : Option V) : Prop := tt σ H fun b H2 => if b = true then te σ H2 fun y H3 => Mx [] H H3 ∧ o = some y else Mx [] H H2 ∧ o = none
/-- readings are monotone in what is wanted: the two that the turn asks -/
structure Mono (tt : TT) (te : TE) : Prop where
  t : ∀ σ H (Q Q' : Bool → Hp → Prop), (∀ b H', Q b H' → Q' b H') → tt σ H Q → tt σ H Q'
  e : ∀ σ H (Q Q' : VK), (∀ v H', Q v H' → Q' v H') → te σ H Q → te σ H Q'
/-- over a range: the turn is shown for whatever it is to reach -/
theorem g_lcR {lo : Int} {n j : Nat} {tt : TT} {te : TE} {vs : List Nat} (f : Nat → Option V) (hw : ∀ x, wipe ((wipe σ vs).set j (some x)) vs = wipe σ vs) (hn : n ≤ 50000)
    (hs : ∀ (i : Nat) (H' : Hp) (QN : Option V → Hp → Prop), i < n → Mx [] H H' → (∀ o H3, Mx [] H' H3 → o = f i → QN o H3) →
      tt ((wipe σ vs).set j (some (.int (lo + i)))) H' fun b H3 => if b = true then te ((wipe σ vs).set j (some (.int (lo + i)))) H3 fun y H4 => QN (some y) H4 else QN none H3)
    (hd : ∀ Dl H', H Dl = none → Mx [] H H' → H' Dl = some (.lst ((List.range n).filterMap f)) → Q (.ref Dl) H') : kLc (gName j) tt te vs σ Q (Itr lo n) H := by
  intro Dl hDl
  refine lc_range (fun i H' => Mx [] H H' ∧ H' Dl = some (.lst ((List.range i).filterMap f))) ⟨.new hDl, upd_same⟩ (fun i H' hi hp => ?_) (fun H' hp => hd Dl H' hDl hp.1 hp.2)
  obtain ⟨m, e⟩ := hp
  refine ⟨hw _, ?_⟩
  have key := hs i H' (fun o H3 => match o with
    | some y => ∃ acc, H3 Dl = some (.lst acc) ∧ acc.length < sizeLine ∧ (Mx [] H (upd H3 Dl (.lst (acc ++ [y]))) ∧ upd H3 Dl (.lst (acc ++ [y])) Dl = some (.lst ((List.range (i + 1)).filterMap f)))
    | none => Mx [] H H3 ∧ H3 Dl = some (.lst ((List.range (i + 1)).filterMap f))) hi m ?_
  · exact key
  · intro o H3 m3 eo
    cases o with
    | some y =>
      refine ⟨_, m3.get0 e, lineL (Nat.lt_of_le_of_lt (fm_len f i) (by omega)), upd_Mx hDl (m.trans m3), ?_⟩
      rw [upd_same, range_fm, ← eo]
    | none =>
      refine ⟨m.trans m3, ?_⟩
      rw [range_fm, ← eo, List.append_nil]
      exact m3.get0 e
/-- over a list -/
theorem g_lcL {a : Addr} {xs : List V} {j : Nat} {tt : TT} {te : TE} {vs : List Nat} (f : Nat → Option V) (hw : ∀ x, wipe ((wipe σ vs).set j (some x)) vs = wipe σ vs) (hn : xs.length ≤ 50000) (hx : SqL K H a xs)
    (hs : ∀ (i : Nat) (x : V) (H' : Hp) (QN : Option V → Hp → Prop), xs[i]? = some x → Mx [] H H' → (∀ o H3, Mx [] H' H3 → o = f i → QN o H3) →
      tt ((wipe σ vs).set j (some x)) H' fun b H3 => if b = true then te ((wipe σ vs).set j (some x)) H3 fun y H4 => QN (some y) H4 else QN none H3)
    (hd : ∀ Dl H', H Dl = none → Mx [] H H' → H' Dl = some (.lst ((List.range xs.length).filterMap f)) → Q (.ref Dl) H') : kLc (gName j) tt te vs σ Q (Itl K a) H := by
  intro Dl hDl
  refine lc_list (xs := xs) (fun i H' => i ≤ xs.length ∧ Mx [] H H' ∧ H' Dl = some (.lst ((List.range i).filterMap f))) ⟨Nat.zero_le _, .new hDl, upd_same⟩ (fun i H' _ hp => hp.2.1.sqL0 hx) (fun i x H' hi hp => ?_) (fun H' hp => hd Dl H' hDl hp.2.1 hp.2.2)
  obtain ⟨le, m, e⟩ := hp
  have lt : i < xs.length := (List.getElem?_eq_some_iff.mp hi).1
  refine ⟨hw _, ?_⟩
  have key := hs i x H' (fun o H3 => match o with
    | some y => ∃ acc, H3 Dl = some (.lst acc) ∧ acc.length < sizeLine ∧ (i + 1 ≤ xs.length ∧ Mx [] H (upd H3 Dl (.lst (acc ++ [y]))) ∧ upd H3 Dl (.lst (acc ++ [y])) Dl = some (.lst ((List.range (i + 1)).filterMap f)))
    | none => i + 1 ≤ xs.length ∧ Mx [] H H3 ∧ H3 Dl = some (.lst ((List.range (i + 1)).filterMap f))) hi m ?_
  · exact key
  · intro o H3 m3 eo
    cases o with
    | some y =>
      refine ⟨_, m3.get0 e, lineL (Nat.lt_of_le_of_lt (fm_len f i) (by omega)), lt, upd_Mx hDl (m.trans m3), ?_⟩
      rw [upd_same, range_fm, ← eo]
    | none =>
      refine ⟨lt, m.trans m3, ?_⟩
      rw [range_fm, ← eo, List.append_nil]
      exact m3.get0 e
end
end Fk

set_option maxRecDepth 100000
namespace Fk
open PySem PySem.Spec PyProof.Rows L2
end Fk
namespace L2
open PySem PySem.Spec PyProof.Rows Fk
/-! ### data on the heap -/
mutual
theorem Dp.mx {K : PySem.W.Frag} {H H' : Hp} (m : Mx [] H H') : ∀ {v : V} {d : PyData}, Dp K H v d → Dp K H' v d
  | _, _, .non => .non
  | _, _, .bl b => .bl b
  | _, _, .int i => .int i
  | _, _, .str x => .str x
  | _, _, .lst h a => .lst (m.sqL0 h) (DpAll.mx m a)
  | _, _, .tup h a => .tup (m.sqT0 h) (DpAll.mx m a)
theorem DpAll.mx {K : PySem.W.Frag} {H H' : Hp} (m : Mx [] H H') : ∀ {vs : List V} {ds : List PyData}, DpAll K H vs ds → DpAll K H' vs ds
  | _, _, .nil => .nil
  | _, _, .cons h r => .cons (Dp.mx m h) (DpAll.mx m r)
end
end L2
namespace Fk
open PySem PySem.Spec PyProof.Rows L2
mutual
/-- no list within -/
def frz : PyData → Bool
  | .none | .bool _ | .int _ | .str _ => true
  | .tuple xs => frzAll xs
  | .list _ | .dict _ => false
def frzAll : List PyData → Bool
  | [] => true
  | x :: xs => frz x && frzAll xs
end
/-- what is written are no tuples -/
def NoTup (H : Hp) (S : List Addr) : Prop := ∀ x ∈ S, ∀ u, H x = some u → (∀ ys, u ≠ .tup ys) ∧ ∀ o w, u ≠ .frz o w
theorem Mx.sqTw {K : PySem.W.Frag} {S : List Addr} {H H' : Hp} {a : Addr} {xs : List V} (m : Mx S H H') (n : NoTup H S) (h : SqT K H a xs) : SqT K H' a xs := by
  rcases h with (h | ⟨o, h⟩) | h
  · exact .inl (.inl (m a _ h fun z => (n a z _ h).1 xs rfl))
  · exact .inl (.inr ⟨o, m a _ h fun z => (n a z _ h).2 _ _ rfl⟩)
  · exact .inr h
end Fk
namespace L2
open PySem PySem.Spec PyProof.Rows Fk
mutual
theorem Dp.mxT {K : PySem.W.Frag} {S : List Addr} {H H' : Hp} (m : Mx S H H') (n : NoTup H S) : ∀ {v : V} {d : PyData}, frz d = true → Dp K H v d → Dp K H' v d
  | _, _, _, .non => .non
  | _, _, _, .bl b => .bl b
  | _, _, _, .int i => .int i
  | _, _, _, .str x => .str x
  | _, _, f, .lst h a => by simp [frz] at f
  | _, _, f, .tup h a => .tup (m.sqTw n h) (DpAll.mxT m n (by simpa [frz] using f) a)
theorem DpAll.mxT {K : PySem.W.Frag} {S : List Addr} {H H' : Hp} (m : Mx S H H') (n : NoTup H S) : ∀ {vs : List V} {ds : List PyData}, frzAll ds = true → DpAll K H vs ds → DpAll K H' vs ds
  | _, _, _, .nil => .nil
  | v :: vs, d :: ds, f, .cons h r => by
    have q : frz d = true ∧ frzAll ds = true := by simpa [frzAll] using f
    exact .cons (Dp.mxT m n q.1 h) (DpAll.mxT m n q.2 r)
end
theorem DpAll.len {K : PySem.W.Frag} {H : Hp} : ∀ {vs : List V} {ds : List PyData}, DpAll K H vs ds → vs.length = ds.length
  | _, _, .nil => rfl
  | _, _, .cons _ r => by simp [DpAll.len r]
theorem DpAll.app {K : PySem.W.Frag} {H : Hp} : ∀ {vs ws : List V} {ds es : List PyData}, DpAll K H vs ds → DpAll K H ws es → DpAll K H (vs ++ ws) (ds ++ es)
  | _, _, _, _, .nil, q => q
  | _, _, _, _, .cons h r, q => .cons h (DpAll.app r q)
theorem DpAll.get {K : PySem.W.Frag} {H : Hp} : ∀ {vs : List V} {ds : List PyData} {i : Nat} {d : PyData}, DpAll K H vs ds → ds[i]? = some d → ∃ v, vs[i]? = some v ∧ Dp K H v d
  | _, _, _, _, .nil, e => by simp at e
  | _, _, 0, _, .cons h _, e => by simp at e; subst e; exact ⟨_, rfl, h⟩
  | _, _, i + 1, _, .cons _ r, e => by
    obtain ⟨v, h1, h2⟩ := DpAll.get (i := i) r (by simpa using e)
    exact ⟨v, by simpa using h1, h2⟩
theorem DpAll.get' {K : PySem.W.Frag} {H : Hp} : ∀ {vs : List V} {ds : List PyData} {i : Nat} {v : V}, DpAll K H vs ds → vs[i]? = some v → ∃ d, ds[i]? = some d ∧ Dp K H v d
  | _, _, _, _, .nil, e => by simp at e
  | _, _, 0, _, .cons h _, e => by simp at e; subst e; exact ⟨_, rfl, h⟩
  | _, _, i + 1, _, .cons _ r, e => by
    obtain ⟨v, h1, h2⟩ := DpAll.get' (i := i) r (by simpa using e)
    exact ⟨v, by simpa using h1, h2⟩
theorem DpAll.take {K : PySem.W.Frag} {H : Hp} : ∀ {vs : List V} {ds : List PyData} (n : Nat), DpAll K H vs ds → DpAll K H (vs.take n) (ds.take n)
  | _, _, 0, _ => by simp; exact .nil
  | _, _, n + 1, .nil => by simp; exact .nil
  | _, _, n + 1, .cons h r => by simp; exact .cons h (DpAll.take n r)
theorem DpAll.drop {K : PySem.W.Frag} {H : Hp} : ∀ {vs : List V} {ds : List PyData} (n : Nat), DpAll K H vs ds → DpAll K H (vs.drop n) (ds.drop n)
  | _, _, 0, h => by simpa using h
  | _, _, n + 1, .nil => by simp; exact .nil
  | _, _, n + 1, .cons h r => by simpa using DpAll.drop n r
theorem DpAll.ints {K : PySem.W.Frag} {H : Hp} : ∀ ns : List Int, DpAll K H (ns.map V.int) (ns.map PyData.int)
  | [] => .nil
  | n :: r => .cons (.int n) (DpAll.ints r)
theorem Dp.ints {K : PySem.W.Frag} {H : Hp} {a : Addr} {ns : List Int} (h : SqL K H a (ns.map V.int)) : Dp K H (.ref a) (.list (ns.map PyData.int)) := .lst h (DpAll.ints ns)
end L2
namespace Fk
open PySem PySem.Spec PyProof.Rows L2
/-! ### data that == tells apart as it is -/
theorem lay_ints : ∀ ns : List Int, PyData.canLayAll0 (ns.map PyData.int) = true
  | [] => rfl
  | n :: r => by simp [PyData.canLayAll0, PyData.canLay0, lay_ints r]
theorem dep_ints : ∀ ns : List Int, PyData.depthAll (ns.map PyData.int) = 0
  | [] => rfl
  | n :: r => by simp [PyData.depthAll, PyData.depth, dep_ints r]
theorem shaped_ints (ns : List Int) : SeqAt.shaped (.list (ns.map PyData.int)) = true := by
  simp [SeqAt.shaped, PyData.canLay0, lay_ints, PyData.depth, dep_ints]
theorem eqv_ints : ∀ xs ys : List Int, PyData.eqvAll (xs.map PyData.int) (ys.map PyData.int) = decide (xs = ys)
  | [], [] => rfl
  | [], _ :: _ => by simp [PyData.eqvAll]
  | _ :: _, [] => by simp [PyData.eqvAll]
  | x :: xs, y :: ys => by
    simp only [List.map_cons, PyData.eqvAll, PyData.eqv, eqv_ints xs ys]
    by_cases h : x = y <;> simp [h]
/-- a stamp, a tuple of two -/
def stD (s : Int × Int) : PyData := .tuple [.int s.1, .int s.2]
theorem lay_sts : ∀ ns : List (Int × Int), PyData.canLayAll0 (ns.map stD) = true
  | [] => rfl
  | n :: r => by simp [PyData.canLayAll0, PyData.canLay0, stD, lay_sts r]
theorem dep_sts : ∀ ns : List (Int × Int), PyData.depthAll (ns.map stD) ≤ 1
  | [] => by simp [PyData.depthAll]
  | n :: r => by have := dep_sts r; simp [PyData.depthAll, PyData.depth, stD]; omega
theorem shaped_sts (ns : List (Int × Int)) : SeqAt.shaped (.list (ns.map stD)) = true := by
  have := dep_sts ns
  simp [SeqAt.shaped, PyData.canLay0, lay_sts, PyData.depth]
  omega
theorem eqv_sts : ∀ xs ys : List (Int × Int), PyData.eqvAll (xs.map stD) (ys.map stD) = decide (xs = ys)
  | [], [] => rfl
  | [], _ :: _ => by simp [PyData.eqvAll]
  | _ :: _, [] => by simp [PyData.eqvAll]
  | x :: xs, y :: ys => by
    obtain ⟨a, b⟩ := x; obtain ⟨c, d⟩ := y
    simp only [List.map_cons, PyData.eqvAll, PyData.eqv, eqv_sts xs ys, stD]
    by_cases h : a = c <;> by_cases h' : b = d <;> simp [h, h']
theorem frz_sts : ∀ ns : List (Int × Int), frzAll (ns.map stD) = true
  | [] => rfl
  | n :: r => by simp [frzAll, frz, stD, frz_sts r]
theorem frz_ints : ∀ ns : List Int, frzAll (ns.map PyData.int) = true
  | [] => rfl
  | n :: r => by simp [frzAll, frz, frz_ints r]
theorem _root_.L2.Dp.st {K : PySem.W.Frag} {H : Hp} {v : V} {s : Int × Int} (h : Dp K H v (stD s)) : ∃ a, v = .ref a ∧ SqT K H a [.int s.1, .int s.2] := by
  unfold stD at h
  cases h with
  | tup h a =>
    cases a with
    | cons h1 r1 => cases h1; cases r1 with
      | cons h2 r2 => cases h2; cases r2; exact ⟨_, rfl, h⟩
theorem _root_.L2.Dp.mkSt {K : PySem.W.Frag} {H : Hp} {a : Addr} {s : Int × Int} (h : SqT K H a [.int s.1, .int s.2]) : Dp K H (.ref a) (stD s) := .tup h (.cons (.int _) (.cons (.int _) .nil))
theorem noTup1 {H : Hp} {l : Addr} {xs : List V} (h : H l = some (.lst xs)) : NoTup H [l] := fun x hx u e => by
  simp at hx; subst hx; rw [h] at e; cases e; exact ⟨(fun _ z => nomatch z), (fun _ _ z => nomatch z)⟩
theorem Mx.sts {K : PySem.W.Frag} {S : List Addr} {H H' : Hp} {vs : List V} {ss : List (Int × Int)} (m : Mx S H H') (n : NoTup H S) (h : DpAll K H vs (ss.map stD)) : DpAll K H' vs (ss.map stD) := DpAll.mxT m n (frz_sts ss) h
theorem Mx.own {S : List Addr} {H H1 H2 : Hp} {p : Addr} (m : Mx S H H1) (f : H p = none) (k : Mx [p] H1 H2) : Mx S H H2 := fun a o e n =>
  k a o (m a o e n) (by simp; exact ne_of_none e f)
theorem ixE {n j : Nat} {i : Int} (e : i = (j : Int)) (h : j < n) : ixN n i = some j := by
  subst e; unfold ixN; rw [if_pos (by omega), if_pos (by omega)]; rfl
theorem g_setI {H : Hp} {p : Addr} {ns : List Int} {i z : Int} {j : Nat} {QH : Hp → Prop} (h : H p = some (.lst (ns.map V.int))) (e : i = (j : Int)) (hj : j < ns.length)
    (k : ∀ H', Mx [p] H H' → H' p = some (.lst ((ns.set j z).map V.int)) → QH H') : rSetL (.ref p) (.int i) (.int z) H QH :=
  g_setL h (ixE e (by rw [List.length_map]; exact hj)) fun H' m q => k H' m (by rw [q, List.map_set])
section
variable {K : PySem.W.Frag} {H : Hp} {Q : VK} {x y : V}
theorem g_eqD {d e : PyData} (h1 : Dp K H x d) (h2 : Dp K H y e) (s1 : SeqAt.shaped d = true) (s2 : SeqAt.shaped e = true) (k : Q (.bl (PyData.eqv d e)) H) : rEqD K x y H Q := ⟨d, e, h1, h2, s1, s2, k⟩
theorem g_neD {d e : PyData} (h1 : Dp K H x d) (h2 : Dp K H y e) (s1 : SeqAt.shaped d = true) (s2 : SeqAt.shaped e = true) (k : Q (.bl (!PyData.eqv d e)) H) : rNeD K x y H Q := ⟨d, e, h1, h2, s1, s2, k⟩
/-- two lists of ints -/
theorem g_eqI {a b : Addr} {xs ys : List Int} (h1 : SqL K H a (xs.map V.int)) (h2 : SqL K H b (ys.map V.int)) (k : Q (.bl (decide (xs = ys))) H) : rEqD K (.ref a) (.ref b) H Q :=
  g_eqD (Dp.ints h1) (Dp.ints h2) (shaped_ints xs) (shaped_ints ys) (by rw [PyData.eqv, eqv_ints]; exact k)
theorem g_neI {a b : Addr} {xs ys : List Int} (h1 : SqL K H a (xs.map V.int)) (h2 : SqL K H b (ys.map V.int)) (k : Q (.bl (!decide (xs = ys))) H) : rNeD K (.ref a) (.ref b) H Q :=
  g_neD (Dp.ints h1) (Dp.ints h2) (shaped_ints xs) (shaped_ints ys) (by rw [PyData.eqv, eqv_ints]; exact k)
theorem g_eqS {a b : Addr} {xs ys : List (Int × Int)} (h1 : Dp K H (.ref a) (.list (xs.map stD))) (h2 : Dp K H (.ref b) (.list (ys.map stD))) (k : Q (.bl (decide (xs = ys))) H) : rEqD K (.ref a) (.ref b) H Q :=
  g_eqD h1 h2 (shaped_sts xs) (shaped_sts ys) (by rw [PyData.eqv, eqv_sts]; exact k)
theorem g_neS {a b : Addr} {xs ys : List (Int × Int)} (h1 : Dp K H (.ref a) (.list (xs.map stD))) (h2 : Dp K H (.ref b) (.list (ys.map stD))) (k : Q (.bl (!decide (xs = ys))) H) : rNeD K (.ref a) (.ref b) H Q :=
  g_neD h1 h2 (shaped_sts xs) (shaped_sts ys) (by rw [PyData.eqv, eqv_sts]; exact k)
end
end Fk

set_option maxRecDepth 100000
namespace Fk
open PySem PySem.Spec PyProof.Rows L2
section
variable {K : PySem.W.Frag} {σ σ' : L2.St} {H : Hp} {Q : VK} {D : Ends} {v x y : V} {R : It → Hp → Prop}
/-! ### a dict locked while it is walked -/
theorem g_lock {t : TS} {d : Addr} {u : HO} (h : H d = some u) (mu : Mut (some u))
    (k : ∀ od H1, Mx [d] H H1 → H1 d = some (.frz od u) → t ⟨fun σ' H' => H' d = some (.frz od u) ∧ D.nx σ' (upd H' d u), fun v H' => H' d = some (.frz od u) ∧ D.rt v (upd H' d u), fun σ' H' => H' d = some (.frz od u) ∧ D.bk σ' (upd H' d u), fun σ' H' => H' d = some (.frz od u) ∧ D.ct σ' (upd H' d u)⟩ σ H1) : tLock t D σ H :=
  ⟨d, u, h, mu, fun od => k od _ (.put (by simp)) upd_same⟩
def kKeys (R : It → Hp → Prop) : VK := fun x H1 => ∃ d o, x = .ref d ∧ ((∃ kvs, H1 d = some (.frz o (.dK kvs)) ∧ R (Itk d o kvs) H1) ∨ ∃ kvs, H1 d = some (.frz o (.dT kvs)) ∧ R (Itkt d o kvs) H1)
theorem g_iK {td : TE} (k : td σ H (kKeys R)) : iKeys td σ H R := k
theorem g_kKeys {d : Addr} {o : Obj} {kvs : List (Key × V)} (h : H d = some (.frz o (.dK kvs))) (k : R (Itk d o kvs) H) : kKeys R (.ref d) H := ⟨d, o, rfl, .inl ⟨kvs, h, k⟩⟩
theorem g_forK {d : Addr} {o : Obj} {kvs : List (Key × V)} {g : TG} {tb : TS} (Pv : Nat → L2.St → Hp → Prop) (h0 : Pv 0 σ H) (hl : ∀ i σ H, Pv i σ H → H d = some (.frz o (.dK kvs)))
    (hs : ∀ i k v σ H, kvs[i]? = some (k, v) → Pv i σ H → g (kV k) σ H fun σ2 H2 => tb { D with nx := Pv (i + 1), ct := Pv (i + 1), bk := D.nx } σ2 H2) (hd : ∀ σ H, Pv kvs.length σ H → D.nx σ H) : kFor g tb D σ (Itk d o kvs) H := by
  refine ⟨fun i m σ H => Pv i σ H ∧ i + m = kvs.length, ⟨kvs.length, h0, by simp⟩, fun i m σ H ⟨p, e⟩ => ?_⟩
  have hh := hl i σ H p
  by_cases hi : i < kvs.length
  · refine .inr ⟨⟨hh, hi⟩, fun σ' H' => Pv (i + 1) σ' H', fun σ' H' q => ⟨m - 1, by omega, q, by omega⟩, fun x H' hy => ?_⟩
    obtain ⟨rfl, k, v, hk, rfl⟩ := hy
    exact hs i k v σ H' hk p
  · have : i = kvs.length := by omega
    subst this
    exact .inl ⟨⟨hh, Nat.le_refl _⟩, hd σ H p⟩
/-! ### several ways, one going on -/
theorem g_cut {te : TE} (R : VK → Prop) (h : ∀ Q' : VK, R Q' → te σ H Q') (k : R Q) : te σ H Q := h Q k
theorem g_cutT {te : TT} {Q : Bool → Hp → Prop} (R : (Bool → Hp → Prop) → Prop) (h : ∀ Q' : Bool → Hp → Prop, R Q' → te σ H Q') (k : R Q) : te σ H Q := h Q k
theorem g_cutS {t : TS} (R : (L2.St → Hp → Prop) → Prop) (h : ∀ N, R N → t { D with nx := N } σ H) (k : R D.nx) : t D σ H := h D.nx k
/-! ### comprehensions that make data -/
theorem tup_wr {H : Hp} {ws : List V} {ds : List PyData} {p : Addr} {o : HO} {us : List V} (h : H p = some (.lst us)) (f : frzAll ds = true) (d : DpAll K H ws ds) : DpAll K (upd H p o) ws ds :=
  d.mxT (.put (S := [p]) (by simp)) (noTup1 h) f
theorem frzAll_map {α : Type} {f : α → PyData} : ∀ {l : List α}, (∀ a ∈ l, frz (f a) = true) → frzAll (l.map f) = true
  | [], _ => rfl
  | a :: l, h => by
    rw [List.map_cons, frzAll, h a List.mem_cons_self, frzAll_map fun b hb => h b (List.mem_cons_of_mem _ hb)]
    rfl
theorem g_lcRD {lo : Int} {n j : Nat} {te : TE} {vs : List Nat} (ds : Nat → PyData) (fz : ∀ i, frz (ds i) = true) (hw : ∀ x, wipe ((wipe σ vs).set j (some x)) vs = wipe σ vs) (hn : n ≤ 50000)
    (hs : ∀ (i : Nat) (H' : Hp) (QN : VK), i < n → Mx [] H H' → (∀ y H3, Mx [] H' H3 → Dp K H3 y (ds i) → QN y H3) → te ((wipe σ vs).set j (some (.int (lo + i)))) H' QN)
    (hd : ∀ Dl H' ws, H Dl = none → Mx [] H H' → H' Dl = some (.lst ws) → DpAll K H' ws ((List.range n).map ds) → Q (.ref Dl) H') : kLc (gName j) tYes te vs σ Q (Itr lo n) H := by
  intro Dl hDl
  refine lc_range (fun i H' => Mx [] H H' ∧ ∃ ws, H' Dl = some (.lst ws) ∧ DpAll K H' ws ((List.range i).map ds)) ⟨.new hDl, [], upd_same, .nil⟩ (fun i H' hi hp => ?_) (fun H' hp => ?_)
  · obtain ⟨m, ws, e, d⟩ := hp
    refine ⟨hw _, ?_⟩
    show te _ H' _
    refine hs i H' _ hi m fun y H3 m3 dy => ?_
    have lw := d.len
    rw [List.length_map, List.length_range] at lw
    refine ⟨ws, m3.get0 e, lineL (by omega), upd_Mx hDl (m.trans m3), _, upd_same, ?_⟩
    rw [List.range_succ, List.map_append]
    have f1 : frzAll ((List.range i).map ds ++ [i].map ds) = true := by rw [← List.map_append]; exact frzAll_map fun a _ => fz a
    exact tup_wr (m3.get0 e) f1 ((d.mx m3).app (.cons dy .nil))
  · obtain ⟨m, ws, e, d⟩ := hp
    exact hd Dl H' ws hDl m e d
theorem g_lcLD {a : Addr} {xs : List V} {j : Nat} {te : TE} {vs : List Nat} (ds : Nat → PyData) (fz : ∀ i, frz (ds i) = true) (hw : ∀ x, wipe ((wipe σ vs).set j (some x)) vs = wipe σ vs) (hn : xs.length ≤ 50000) (hx : SqL K H a xs)
    (hs : ∀ (i : Nat) (x : V) (H' : Hp) (QN : VK), xs[i]? = some x → Mx [] H H' → (∀ y H3, Mx [] H' H3 → Dp K H3 y (ds i) → QN y H3) → te ((wipe σ vs).set j (some x)) H' QN)
    (hd : ∀ Dl H' ws, H Dl = none → Mx [] H H' → H' Dl = some (.lst ws) → DpAll K H' ws ((List.range xs.length).map ds) → Q (.ref Dl) H') : kLc (gName j) tYes te vs σ Q (Itl K a) H := by
  intro Dl hDl
  refine lc_list (xs := xs) (fun i H' => i ≤ xs.length ∧ Mx [] H H' ∧ ∃ ws, H' Dl = some (.lst ws) ∧ DpAll K H' ws ((List.range i).map ds)) ⟨Nat.zero_le _, .new hDl, [], upd_same, .nil⟩ (fun i H' _ hp => hp.2.1.sqL0 hx) (fun i x H' hi hp => ?_) (fun H' hp => ?_)
  · obtain ⟨le, m, ws, e, d⟩ := hp
    have lt : i < xs.length := (List.getElem?_eq_some_iff.mp hi).1
    refine ⟨hw _, ?_⟩
    show te _ H' _
    refine hs i x H' _ hi m fun y H3 m3 dy => ?_
    have lw := d.len
    rw [List.length_map, List.length_range] at lw
    refine ⟨ws, m3.get0 e, lineL (by omega), lt, upd_Mx hDl (m.trans m3), _, upd_same, ?_⟩
    rw [List.range_succ, List.map_append]
    have f1 : frzAll ((List.range i).map ds ++ [i].map ds) = true := by rw [← List.map_append]; exact frzAll_map fun a _ => fz a
    exact tup_wr (m3.get0 e) f1 ((d.mx m3).app (.cons dy .nil))
  · obtain ⟨_, m, ws, e, d⟩ := hp
    exact hd Dl H' ws hDl m e d
end
end Fk

set_option maxRecDepth 100000
namespace Fk
open PySem PySem.Spec PyProof.Rows L2
section
variable {X : Cx} (K : PySem.W.Frag)
theorem ixQ (e : X.K = K := by rfl) : IxR X (rIx K) := e ▸ ix_seq
theorem cIsi (e : X.K = K := by rfl) : CallR X (.builtin "isinstance") (rIsi K) := e ▸ call_isi
theorem cIsiT (e : X.K = K := by rfl) : CallR X (.builtin "isinstance") (rIsiT K) := e ▸ call_isiT
end
section
variable {K : PySem.W.Frag} {H : Hp} {Q : VK} {x v : V}
theorem g_ixQL {p : Addr} {xs : List V} {i : Int} (h : SqL K H p xs) (ha : atI xs i = some v) (k : Q v H) : rIx K (.ref p) (.int i) H Q := .inl (g_ixL h ha k)
theorem g_ixQT {p : Addr} {xs : List V} {i : Int} (h : SqT K H p xs) (ha : atI xs i = some v) (k : Q v H) : rIx K (.ref p) (.int i) H Q := .inr (.inl (g_ixT h ha k))
theorem g_isi {a b : String} {r : Bool} (ty : TyX K H x (.type a)) (e : kitB a b = some r) (k : Q (.bl r) H) : rIsi K [x, .ty b] H Q := ⟨x, .ty b, .type a, .type b, r, rfl, .ty b, ty, kit_ty e, k⟩
theorem g_isiT2 {a b c : String} {r s : Bool} {tp : Addr} (h : H tp = some (.tup [.ty b, .ty c])) (ty : TyX K H x (.type a)) (e : kitB a b = some r) (e2 : kitB a c = some s) (k : Q (.bl (r || s)) H) : rIsiT K [x, .ref tp] H Q := by
  refine ⟨x, tp, [.ty b, .ty c], .type a, [.type b, .type c], r || s, rfl, h, .cons (.ty b) (.cons (.ty c) .nil), ty, ?_, k⟩
  refine kitAny_cons (kit_ty e) (fun er => ?_) (fun er => by rw [er]; rfl)
  rw [er, Bool.false_or]
  exact kitAny_cons (kit_ty e2) (fun es => by rw [es]; exact kitAny_nil) (fun es => es)
theorem tyL {a : Addr} {xs : List V} (h : SqL K H a xs) : TyX K H (.ref a) (.type "list") := by
  rcases h with (h | ⟨o, h⟩) | ⟨o, its, n, h, c, _⟩
  · exact .base (.lst h)
  · exact .base (.frz h)
  · exact .kList h c
theorem tyT {a : Addr} {xs : List V} (h : SqT K H a xs) : TyX K H (.ref a) (.type "tuple") := by
  rcases h with (h | ⟨o, h⟩) | ⟨o, its, n, h, c, _⟩
  · exact .base (.tup h)
  · exact .fTuple h
  · exact .kTuple h c
theorem TyX.mx {t : Value} {H' : Hp} (m : Mx [] H H') (h : TyX K H x t) : TyX K H' x t := by
  cases h with
  | base h => cases h with
    | non => exact .base .non
    | bl b => exact .base (.bl b)
    | int i => exact .base (.int i)
    | str z => exact .base (.str z)
    | flt z => exact .base (.flt z)
    | lst e => exact .base (.lst (m.get0 e))
    | frz e => exact .base (.frz (m.get0 e))
    | tup e => exact .base (.tup (m.get0 e))
    | dK e => exact .base (.dK (m.get0 e))
    | dT e => exact .base (.dT (m.get0 e))
    | ins e cl ha hn htk hm => exact .base (.ins (m.get0 e) cl ha hn htk hm)
  | byt b => exact .byt b
  | set e => exact .set (m.get0 e)
  | kList e c => exact .kList e c
  | kTuple e c => exact .kTuple e c
  | kDict e c => exact .kDict e c
  | fTuple e => exact .fTuple (m.get0 e)
  | fDict e => exact .fDict (m.get0 e)
end
theorem kk_NoneType_tuple : kitB "NoneType" "tuple" = some false := by decide +kernel
theorem kk_NoneType_list : kitB "NoneType" "list" = some false := by decide +kernel
theorem kk_NoneType_str : kitB "NoneType" "str" = some false := by decide +kernel
theorem kk_NoneType_bool : kitB "NoneType" "bool" = some false := by decide +kernel
theorem kk_NoneType_int : kitB "NoneType" "int" = some false := by decide +kernel
theorem kk_bool_tuple : kitB "bool" "tuple" = some false := by decide +kernel
theorem kk_bool_list : kitB "bool" "list" = some false := by decide +kernel
theorem kk_bool_str : kitB "bool" "str" = some false := by decide +kernel
theorem kk_bool_bool : kitB "bool" "bool" = some true := by decide +kernel
theorem kk_bool_int : kitB "bool" "int" = some true := by decide +kernel
theorem kk_int_tuple : kitB "int" "tuple" = some false := by decide +kernel
theorem kk_int_list : kitB "int" "list" = some false := by decide +kernel
theorem kk_int_str : kitB "int" "str" = some false := by decide +kernel
theorem kk_int_bool : kitB "int" "bool" = some false := by decide +kernel
theorem kk_int_int : kitB "int" "int" = some true := by decide +kernel
theorem kk_str_tuple : kitB "str" "tuple" = some false := by decide +kernel
theorem kk_str_list : kitB "str" "list" = some false := by decide +kernel
theorem kk_str_str : kitB "str" "str" = some true := by decide +kernel
theorem kk_str_bool : kitB "str" "bool" = some false := by decide +kernel
theorem kk_str_int : kitB "str" "int" = some false := by decide +kernel
theorem kk_list_tuple : kitB "list" "tuple" = some false := by decide +kernel
theorem kk_list_list : kitB "list" "list" = some true := by decide +kernel
theorem kk_list_str : kitB "list" "str" = some false := by decide +kernel
theorem kk_list_bool : kitB "list" "bool" = some false := by decide +kernel
theorem kk_list_int : kitB "list" "int" = some false := by decide +kernel
theorem kk_tuple_tuple : kitB "tuple" "tuple" = some true := by decide +kernel
theorem kk_tuple_list : kitB "tuple" "list" = some false := by decide +kernel
theorem kk_tuple_str : kitB "tuple" "str" = some false := by decide +kernel
theorem kk_tuple_bool : kitB "tuple" "bool" = some false := by decide +kernel
theorem kk_tuple_int : kitB "tuple" "int" = some false := by decide +kernel
/-- the type's name of a datum -/
def tyOf : PyData → String
  | .none => "NoneType"
  | .bool _ => "bool"
  | .int _ => "int"
  | .str _ => "str"
  | .list _ => "list"
  | .tuple _ => "tuple"
  | .dict _ => "dict"
theorem Dp_ty {K : PySem.W.Frag} {H : Hp} {v : V} {d : PyData} (h : Dp K H v d) : TyX K H v (.type (tyOf d)) := by
  cases h with
  | non => exact .base .non
  | bl b => exact .base (.bl b)
  | int i => exact .base (.int i)
  | str z => exact .base (.str z)
  | lst h _ => exact tyL h
  | tup h _ => exact tyT h
end Fk

set_option maxRecDepth 100000
namespace Fk
open PySem PySem.Spec PyProof.Rows L2
theorem Room.units65 {k : Nat} {A : Around} (r : Room k A) : A.units + 65 < cLine := by have := r.un; omega
/-! ### isinstance of the error that a suite holds -/
def rIsX (K : PySem.W.Frag) (cls : Value) (d : Option Addr) (a : Addr) : List V → Hp → VK → Prop := fun xs H Q => ∃ D, cls = .ref D ∧ d = none ∧ ExcC K D ∧ rIsE K D a xs H Q
theorem cIsX {X : Cx} (K : PySem.W.Frag) {a : Addr} {oe : Obj} {cls : Value} {d : Option Addr} {pn : List (Addr × Obj)} (hz : Zc cls d oe) (hf : ∃ vs, oe.data = .fields vs) (e : X.K = K := by rfl) :
    CallR (X.suite a ((a, oe) :: pn)) (.builtin "isinstance") (rIsX K cls d a) := by
  intro pins s σ H xs us Q I r h
  obtain ⟨D, rfl, rfl, C, h⟩ := h
  subst e
  exact call_isE C hz hf pins s σ H xs us Q I r h
theorem g_isX {K : PySem.W.Frag} {D a C : Addr} {H : Hp} {Q : VK} {b : Bool} (E : ExcC K D) (h : PySem.W.kitOne K (.ref D) (.ref C) = some b) (k : Q (.bl b) H) : rIsX K (.ref D) none a [.ref a, .ref C] H Q :=
  ⟨D, rfl, rfl, E, .ref C, .ref C, b, rfl, fun _ r => r, h, k⟩
theorem g_isXt {K : PySem.W.Frag} {D a : Addr} {t : String} {H : Hp} {Q : VK} {b : Bool} (E : ExcC K D) (h : PySem.W.kitOne K (.ref D) (.type t) = some b) (k : Q (.bl b) H) : rIsX K (.ref D) none a [.ref a, .ty t] H Q :=
  ⟨D, rfl, rfl, E, .ty t, .type t, b, rfl, fun _ r => r, h, k⟩
/-! ### xs.count(y), flat items -/
def rCntF (K : PySem.W.Frag) : V → List V → Hp → VK → Prop := fun x xs H Q => ∃ (p : Addr) (ys : List V) (y : V), x = .ref p ∧ xs = [y] ∧ SqL K H p ys ∧ flatV y = true ∧ ys.all flatV = true ∧ Q (.int (ys.countP fun z => eqV z y : Nat)) H
theorem countP_eqU {y : V} : ∀ {ys : List V} {us : List Value}, Vals ys us → ys.all flatV = true → us.countP (eqU y) = ys.countP fun z => eqV z y
  | _, _, .nil, _ => rfl
  | _, _, .cons (a := a) r t, f => by
    rename_i b xs us
    have f2 : flatV a = true ∧ xs.all flatV = true := by simpa using f
    rw [List.countP_cons, List.countP_cons, countP_eqU t f2.2, eqU_of r f2.1]
theorem mtCountF {X : Cx} (K : PySem.W.Frag) (e : X.K = K := by rfl) : MtR X "list.count" (rCntF K) := by
  subst e
  intro pins s σ H x xs v us Q I rx rxs h
  obtain ⟨p, ys, y, rfl, rfl, hs, fy, fa, q⟩ := h
  cases rx
  obtain ⟨u, rfl, ru⟩ := rxs.one
  obtain ⟨its, rv, ⟨⟨cls, dd, data, sl⟩, n, ho, hc, hdn, hd⟩, hlen⟩ := I.list hs
  simp only at hc hd
  subst hc hd
  refine call_meets PySem.F.slot_list_count ⟨_, ho, rfl⟩ PySem.F.entry_list_count (PySem.F.args_list_count_2 _ _)
    (SeqAt.list_countAt p its.toArray n dd sl u (eqU y)) ⟨ho, fun z hz => mem_eqAt ru fy rv fa z (by simpa using hz), ?_⟩
  have ec : its.toArray.toList.countP (eqU y) = ys.countP fun z => eqV z y := countP_eqU rv fa
  refine ⟨.int (ys.countP (fun z => eqV z y) : Nat), H, I.tok _, ⟨s.toks, ?_⟩, q⟩
  show Value.int ((its.toArray.toList.countP (eqU y) : Nat) : Int) s.toks = Value.int ((ys.countP (fun z => eqV z y) : Nat) : Int) s.toks
  rw [ec]
theorem g_cntB {K : PySem.W.Frag} {H : Hp} {Q : VK} {p : Addr} {bs : List Bool} {n : Nat} (h : SqL K H p (bs.map V.bl)) (e : bs.count true = n) (k : Q (.int (n : Int)) H) : rCntF K (.ref p) [.bl true] H Q := by
  refine ⟨p, _, .bl true, rfl, rfl, h, rfl, by simp [flatV], ?_⟩
  have : (bs.map V.bl).countP (fun z => eqV z (.bl true)) = n := by
    rw [← e, List.count, List.countP_map]
    rfl
  rw [this]
  exact k
theorem mtIndexD {X : Cx} (K : PySem.W.Frag) (hu : X.A.units + 65 < cLine) (e : X.K = K := by rfl) : MtR X "list.index" (rIndexD K) := e ▸ mt_indexD hu
theorem bools_all {K : PySem.W.Frag} {H : Hp} : ∀ bs : List Bool, DpAll K H (bs.map V.bl) (bs.map PyData.bool)
  | [] => .nil
  | b :: r => .cons (.bl b) (bools_all r)
theorem lay_bools : ∀ ns : List Bool, PyData.canLayAll0 (ns.map PyData.bool) = true
  | [] => rfl
  | n :: r => by simp [PyData.canLayAll0, PyData.canLay0, lay_bools r]
theorem dep_bools : ∀ ns : List Bool, PyData.depthAll (ns.map PyData.bool) = 0
  | [] => rfl
  | n :: r => by simp [PyData.depthAll, PyData.depth, dep_bools r]
theorem g_ixB {K : PySem.W.Frag} {H : Hp} {Q : VK} {p : Addr} {bs : List Bool} {j : Nat} (h : SqL K H p (bs.map V.bl)) (hj : bs[j]? = some true) (hn : ∀ m, m < j → bs[m]? = some false) (k : Q (.int (j : Int)) H) : rIndexD K (.ref p) [.bl true] H Q := by
  refine ⟨p, .bl true, .bool true, bs.map PyData.bool, j, .bool true, rfl, rfl, .lst h (bools_all bs), .bl true, ?_, by decide, by rw [List.getElem?_map, hj]; rfl, rfl, fun m z hm hz => ?_, k⟩
  · simp [SeqAt.shaped, PyData.canLay0, lay_bools, PyData.depth, dep_bools]
  · rw [List.getElem?_map, hn m hm] at hz
    cases hz
    rfl
/-- the text's facts of a def that makes lambdas: its code object c, the table P of theirs -/
structure FcF (K : PySem.W.Frag) (mg : Str → Option Value) (x : Str) (st : Stmt) (ps : List Str) where
  a : Addr
  c : Addr
  P : Addr
  d : FuncData
  ex : ∃ (oc : Value) (od : Option Addr) (kV doc pm : Value) (an : Option Addr) (ct : Value) (osl : Array (Option Value)),
    d = PySem.W.fnOf x x (defArgs st) (defBody st) (defScope st) .none kV doc pm an (.ref c) ct ∧ K.lookup a = some ⟨oc, od, .func d, osl⟩ ∧ PySem.W.codeIn K (.ref c) x = true
  kp : PySem.W.keepIn K (.ref a) = true
  g : mg x = some (.ref a)
  b : Binds K d ps []
theorem FcF.ok {P : Program} {w : World} {K : PySem.W.Frag} {mg : Str → Option Value} {base : Heap} {x : Str} {st : Stmt} {ps N : List Str} {k : Nat} {sp : Sp} (F : FcF K mg x st ps) (S : FnScope N ps (defScope st)) (len : ∀ vs H Q E, sp vs H Q E → vs.length = ps.length)
    (hbody : ∀ (A : Around) (outer : List Env) (s : Shared) (H : Hp) (vs : List V) (Q : VK) (E : XK), Room k (A.deeper (envOfC x (defScope st) s.heap.objs.size F.a (.ref F.c))) → sp vs H Q E →
      ∃ t, PSs (cxOf (L2.CX P w) P w K mg base N x (defScope st) F.a (.ref F.c) A outer s H E) (defBody st) t ∧ t { nx := fun _ H' => Q .non H', rt := Q } (start N vs) H) : FnOk P w K mg base (L2.CX P w) (k + 1) F.a F.d ps sp := by
  obtain ⟨oc, od, kV, doc, pm, an, ct, osl, hd, lk, hcd⟩ := F.ex
  rw [hd] at lk ⊢
  exact fn_of lk hcd S len hbody
/-- what the text says of an error class over FE -/
structure ExI (K : PySem.W.Frag) (D FE : Addr) : Prop where
  c : ExcC K D
  sub : PySem.W.subIn K (.ref D) (.ref FE) = some true
  ve : PySem.W.kitOne K (.ref D) (.type "ValueError") = some true
theorem ExI.exm {K : PySem.W.Frag} {D FE : Addr} {mg : Str → Option Value} {x : Str} (E : ExI K D FE) (F : ExF K mg x FE) (hd : PySem.W.hasDictIn K FE = true) : PySem.W.exmOne K (.ref D) (.ref FE) = some true :=
  PySem.W.exm_ref F.b hd F.t E.sub
end Fk

set_option maxRecDepth 100000
namespace Fk
open PySem PySem.Spec PyProof.Rows L2
/-! ### the end: what the text's top leaves, fact by fact -/
section
variable {K : PySem.W.Frag} {h : Heap} {mg : Str → Option Value} {Goal : Prop}
theorem with_fn (X : K.In h) (G : h.Ns mainGlobals mg) (x : Str) (st : Stmt) (ps : List Str) {f : Addr} {od an : Option Addr} {osl : Array (Option Value)} {oc kV doc pm cdv ct : Value}
    (a : PySem.W.nsIn K mainGlobals x = some (some (.ref f))) (l : K.lookup f = some ⟨oc, od, .func (PySem.W.fnOf x x (defArgs st) (defBody st) (defScope st) .none kV doc pm an cdv ct), osl⟩) (c : PySem.W.codeIn K cdv x = true) (k : PySem.W.keepIn K (.ref f) = true)
    (b : ∀ (kV doc pm : Value) (an : Option Addr) (cdv ct : Value) (us : List Value), us.length = ps.length → bindArgs (PySem.W.fnOf x x (defArgs st) (defBody st) (defScope st) .none kV doc pm an cdv ct) ⟨us, []⟩ = pure (ps.zip us)) (g : FnF K mg x st ps → Goal) : Goal :=
  g ⟨f, _, fun_mk l c k, PySem.W.mg_of X G a, (fun_mk l c k).binds b⟩
theorem with_fc (X : K.In h) (G : h.Ns mainGlobals mg) (x : Str) (st : Stmt) (ps : List Str) {f c P : Addr} {od an : Option Addr} {osl : Array (Option Value)} {oc kV doc pm ct : Value}
    (a : PySem.W.nsIn K mainGlobals x = some (some (.ref f))) (l : K.lookup f = some ⟨oc, od, .func (PySem.W.fnOf x x (defArgs st) (defBody st) (defScope st) .none kV doc pm an (.ref c) ct), osl⟩) (ci : PySem.W.codeIn K (.ref c) x = true) (k : PySem.W.keepIn K (.ref f) = true)
    (b : ∀ (kV doc pm : Value) (an : Option Addr) (cdv ct : Value) (us : List Value), us.length = ps.length → bindArgs (PySem.W.fnOf x x (defArgs st) (defBody st) (defScope st) .none kV doc pm an cdv ct) ⟨us, []⟩ = pure (ps.zip us))
    (hd : PySem.W.codeHdIn K c P = true) (hT : h.get? P = some { cls := .none, data := .fields #[] }) (nP : K.lookup P = none)
    (g : ∀ F : FcF K mg x st ps, h.get? F.P = some { cls := .none, data := .fields #[] } → K.lookup F.P = none → PySem.W.CodeHd h F.c F.P → (∀ (s : Shared) (us : List Value), us.length = ps.length → BindsTo s F.d ⟨us, []⟩ (ps.zip us)) → Goal) : Goal :=
  g ⟨f, c, P, _, ⟨oc, od, kV, doc, pm, an, ct, osl, rfl, l, ci⟩, k, PySem.W.mg_of X G a, (fun_mk l ci k).binds b⟩ hT nP (PySem.W.codeHd_of_K X hd) fun s us hl => .of_eq (b _ _ _ _ _ _ us hl)
theorem with_me {C : Addr} (_ : Cls K C) (m qual : Str) (st : Stmt) (ps : List Str) {f : Addr} {od an : Option Addr} {osl : Array (Option Value)} {oc kV doc pm cdv ct : Value}
    (a : PySem.W.findIn K (.ref C) m = some (some (.ref f))) (i : PySem.W.isFn K (.ref f) = true) (l : K.lookup f = some ⟨oc, od, .func (PySem.W.fnOf m qual (defArgs st) (defBody st) (defScope st) .none kV doc pm an cdv ct), osl⟩) (c : PySem.W.codeIn K cdv qual = true) (k : PySem.W.keepIn K (.ref f) = true)
    (b : ∀ (kV doc pm : Value) (an : Option Addr) (cdv ct : Value) (us : List Value), us.length = ps.length → bindArgs (PySem.W.fnOf m qual (defArgs st) (defBody st) (defScope st) .none kV doc pm an cdv ct) ⟨us, []⟩ = pure (ps.zip us)) (g : MeF K C m qual st ps → Goal) : Goal :=
  g ⟨f, _, fun_mk l c k, ⟨a, i, k⟩, (fun_mk l c k).binds b⟩
theorem with_md {C : Addr} (_ : Cls K C) (m qual : Str) (st : Stmt) (ps : List Str) (n : Nat) {f T0 : Addr} {od od0 an : Option Addr} {osl osl0 : Array (Option Value)} {oc oc0 kV doc pm cdv ct : Value} {n0 : Nat}
    (a : PySem.W.findIn K (.ref C) m = some (some (.ref f))) (i : PySem.W.isFn K (.ref f) = true) (l : K.lookup f = some ⟨oc, od, .func (PySem.W.fnOf m qual (defArgs st) (defBody st) (defScope st) (.ref T0) kV doc pm an cdv ct), osl⟩) (c : PySem.W.codeIn K cdv qual = true) (k : PySem.W.keepIn K (.ref f) = true)
    (l0 : K.lookup T0 = some ⟨oc0, od0, .seq #[.none] n0, osl0⟩) (hn : n + 1 = ps.length)
    (b : ∀ (T : Addr) (kV doc pm : Value) (an : Option Addr) (cdv ct : Value) (us its : List Value), us.length = ps.length → its.length = 1 →
      ∃ k, bindArgs (PySem.W.fnOf m qual (defArgs st) (defBody st) (defScope st) (.ref T) kV doc pm an cdv ct) ⟨us, []⟩ = seqItems? (.ref T) >>= k ∧ k (some its.toArray) = pure (ps.zip (us ++ its.drop 1)))
    (b1 : ∀ (T : Addr) (kV doc pm : Value) (an : Option Addr) (cdv ct : Value) (us its : List Value), us.length = n → its.length = 1 →
      ∃ k, bindArgs (PySem.W.fnOf m qual (defArgs st) (defBody st) (defScope st) (.ref T) kV doc pm an cdv ct) ⟨us, []⟩ = seqItems? (.ref T) >>= k ∧ k (some its.toArray) = pure (ps.zip (us ++ its.drop 0)))
    (g : MdF K C m qual st ps → Goal) : Goal := by
  have F : FunD K m qual (defArgs st) (defBody st) (defScope st) [.non] [] f (PySem.W.fnOf m qual (defArgs st) (defBody st) (defScope st) (.ref T0) kV doc pm an cdv ct) :=
    ⟨⟨oc, od, _, kV, doc, pm, an, cdv, ct, osl, rfl, l, c, .inr ⟨by simp, T0, _, [.none], n0, rfl, l0, rfl, .cons rfl .nil⟩, .inl rfl⟩, k⟩
  obtain ⟨ds, v, e⟩ := F.binds1 (ps := ps) ps.length 1 (by simp) (by simp) b
  obtain ⟨ds1, v1, e1⟩ := F.binds1 (ps := ps) n 0 (by simp) (by simpa using hn) b1
  cases v
  exact g ⟨f, _, F, ⟨a, i, k⟩, e, ds1, v1, e1⟩
theorem with_ex (X : K.In h) (G : h.Ns mainGlobals mg) (x : Str) {C : Addr} (a : PySem.W.nsIn K mainGlobals x = some (some (.ref C))) (e : PySem.W.excIn K C [.type "ValueError", .type "Exception", .type "BaseException", .type "object"] "ValueError.__new__" = true)
    (k : PySem.W.keepIn K (.ref C) = true) (b : PySem.W.subIn K (.ref C) (.type "BaseException") = some true) (t : PySem.W.typeIn K (.ref C) = some (.type "type")) (g : ExF K mg x C → Goal) : Goal :=
  g ⟨PySem.W.mg_of X G a, e, k, b, t⟩
theorem with_ei {D FE : Addr} {x y : Str} (_ : ExF K mg x D) (_ : ExF K mg y FE) (h1 : PySem.W.findIn K (.ref D) "__getattribute__" = some (some (.builtin "BaseException.__getattribute__"))) (h2 : PySem.W.findIn K (.ref D) "__getattr__" = some none) (h3 : PySem.W.subIn K (.ref D) (.type "BaseException") = some true) (h4 : PySem.W.hasDictIn K D = true)
    (h5 : PySem.W.findIn K (.ref D) "__class__" = some (some (.builtin "object.__class__"))) (h6 : PySem.W.specialIn K (.builtin "object.__class__") "__get__" = some (some (.builtin "getset_descriptor.__get__"))) (h7 : PySem.W.takesIn K (.builtin "object.__class__") = some true) (h8 : PySem.W.mroIn K D (.type "object") = some true)
    (h9 : PySem.W.subIn K (.ref D) (.ref FE) = some true) (h10 : PySem.W.kitOne K (.ref D) (.type "ValueError") = some true) (g : ExI K D FE → Goal) : Goal := g ⟨⟨h1, h2, h3, h4, h5, h6, h7, h8⟩, h9, h10⟩
theorem with_cl (X : K.In h) (G : h.Ns mainGlobals mg) (x : Str) {C : Addr} (a : PySem.W.nsIn K mainGlobals x = some (some (.ref C))) (h1 : PySem.W.plainGet K C Str.empty = true) (h2 : PySem.W.hasDictIn K C = true) (h3 : PySem.W.plainOver K C = true)
    (h4 : PySem.W.findIn K (.ref C) "__setattr__" = some (some (.builtin "object.__setattr__"))) (h5 : PySem.W.makesIn K C = true) (h6 : PySem.W.keepIn K (.ref C) = true) (g : Cls K C → mg x = some (.ref C) → PySem.W.makesIn K C = true → PySem.W.keepIn K (.ref C) = true → Goal) : Goal :=
  g ⟨h1, h2, h3, h4⟩ (PySem.W.mg_of X G a) h5 h6
theorem with_na {C : Addr} (_ : Cls K C) (f : Str) (a : PySem.W.findIn K (.ref C) f = some none) (g : NoAttr K C f → Goal) : Goal := g a
theorem with_bl (X : K.In h) (G : h.Ns mainGlobals mg) (x : Str) (a : PySem.W.nsIn K mainGlobals x = some none) (g : mg x = none → Goal) : Goal := g (PySem.W.mg_none_of X G a)
theorem with_co (X : K.In h) (G : h.Ns mainGlobals mg) (x : Str) (v : Int) {t : Tok} (a : PySem.W.nsIn K mainGlobals x = some (some (.int v t))) (g : (∃ t, mg x = some (.int v t)) → Goal) : Goal := g ⟨t, PySem.W.mg_of X G a⟩
theorem with_eq {p : Prop} (a : p) (g : p → Goal) : Goal := g a
end
end Fk

set_option maxRecDepth 100000
namespace Fk
open PySem PySem.Spec PyProof.Rows L2
/-! ### the end, where several defs make lambdas -/
theorem with_fcE {K : PySem.W.Frag} {h : Heap} {mg : Str → Option Value} {Goal : Prop} (X : K.In h) (G : h.Ns mainGlobals mg) (x : Str) (st : Stmt) (ps : List Str) {f c P : Addr} {od an : Option Addr} {osl : Array (Option Value)} {oc kV doc pm ct : Value}
    (a : PySem.W.nsIn K mainGlobals x = some (some (.ref f))) (l : K.lookup f = some ⟨oc, od, .func (PySem.W.fnOf x x (defArgs st) (defBody st) (defScope st) .none kV doc pm an (.ref c) ct), osl⟩) (ci : PySem.W.codeIn K (.ref c) x = true) (k : PySem.W.keepIn K (.ref f) = true)
    (b : ∀ (kV doc pm : Value) (an : Option Addr) (cdv ct : Value) (us : List Value), us.length = ps.length → bindArgs (PySem.W.fnOf x x (defArgs st) (defBody st) (defScope st) .none kV doc pm an cdv ct) ⟨us, []⟩ = pure (ps.zip us))
    (hd : PySem.W.codeHdIn K c P = true) (hT : h.get? P = some { cls := .none, data := .fields #[] }) (nP : K.lookup P = none)
    (g : ∀ F : FcF K mg x st ps, F.P = P → h.get? F.P = some { cls := .none, data := .fields #[] } → K.lookup F.P = none → PySem.W.CodeHd h F.c F.P → (∀ (s : Shared) (us : List Value), us.length = ps.length → BindsTo s F.d ⟨us, []⟩ (ps.zip us)) → Goal) : Goal :=
  g ⟨f, c, P, _, ⟨oc, od, kV, doc, pm, an, ct, osl, rfl, l, ci⟩, k, PySem.W.mg_of X G a, (fun_mk l ci k).binds b⟩ rfl hT nP (PySem.W.codeHd_of_K X hd) fun s us hl => .of_eq (b _ _ _ _ _ _ us hl)
theorem with_fnB {K : PySem.W.Frag} {h : Heap} {mg : Str → Option Value} {Goal : Prop} (X : K.In h) (G : h.Ns mainGlobals mg) (x : Str) (st : Stmt) (ps : List Str) {f : Addr} {od an : Option Addr} {osl : Array (Option Value)} {oc kV doc pm cdv ct : Value}
    (a : PySem.W.nsIn K mainGlobals x = some (some (.ref f))) (l : K.lookup f = some ⟨oc, od, .func (PySem.W.fnOf x x (defArgs st) (defBody st) (defScope st) .none kV doc pm an cdv ct), osl⟩) (c : PySem.W.codeIn K cdv x = true) (k : PySem.W.keepIn K (.ref f) = true)
    (b : ∀ (kV doc pm : Value) (an : Option Addr) (cdv ct : Value) (us : List Value), us.length = ps.length → bindArgs (PySem.W.fnOf x x (defArgs st) (defBody st) (defScope st) .none kV doc pm an cdv ct) ⟨us, []⟩ = pure (ps.zip us))
    (g : ∀ F : FnF K mg x st ps, (∀ (s : Shared) (us : List Value), us.length = ps.length → BindsTo s F.d ⟨us, []⟩ (ps.zip us)) → Goal) : Goal :=
  g ⟨f, _, fun_mk l c k, PySem.W.mg_of X G a, (fun_mk l c k).binds b⟩ fun s us hl => .of_eq (b _ _ _ _ _ _ us hl)
theorem FcF.cl {P : Program} {w : World} {K : PySem.W.Frag} {mg : Str → Option Value} {base : Heap} {x : Str} {st : Stmt} {ps : List Str} {k : Nat} {sp : Sp} (F : FcF K mg x st ps) (h : FnOk P w K mg base (L2.CX P w) k F.a F.d ps sp) : Cl P w K mg base k x sp [] :=
  ⟨F.a, F.d, ps, [], h, F.g, F.kp, F.b, .nil⟩
/-! ### a dict's copy, tuples joined -/
def rDictD : List V → Hp → VK → Prop := fun xs H Q => ∃ (a : Addr) (kvs : List (Key × V)), xs = [.ref a] ∧ Rd H a (.dK kvs) ∧ ∀ p, H p = none → Q (.ref p) (upd H p (.dK kvs))
theorem cDictD {X : Cx} : CallR X (.type "dict") rDictD := call_dictD
theorem g_dictD {a : Addr} {kvs : List (Key × V)} {H : Hp} {Q : VK} (h : H a = some (.dK kvs)) (k : ∀ p H', H p = none → Mx [] H H' → H' p = some (.dK kvs) → Q (.ref p) H') : rDictD [.ref a] H Q := ⟨a, kvs, rfl, .inl h, fun p hp => k p _ hp (.new hp) upd_same⟩
theorem g_joinT {K : PySem.W.Frag} {x y : Addr} {xs ys : List V} {H : Hp} {Q : VK} (h1 : SqT K H x xs) (h2 : SqT K H y ys) (n1 : xs ≠ []) (n2 : ys ≠ []) (hl : xs.length + ys.length ≤ 100000) (k : ∀ p H', H p = none → Mx [] H H' → H' p = some (.tup (xs ++ ys)) → Q (.ref p) H') : rCatT K (.ref x) (.ref y) H Q :=
  ⟨x, y, xs, ys, rfl, rfl, h1, h2, n1, lineS hl, fun z => absurd z n2, fun _ p hp => k p _ hp (.new hp) upd_same⟩
/-! ### sets' lengths, dicts of lists -/
section
variable {X : Cx} (K : PySem.W.Frag)
theorem lenSetK {a : Expr} {ta : TE} {p p2 q pos : Pos} (hg : Gl X "len") (hm : X.mg "len" = none) (hg2 : Gl X "set") (hm2 : X.mg "set" = none) (ha : PE X a ta) (hc : X.calm = true := by rfl) (e : X.K = K := by rfl)
    (na : starEach [a] X.env = (false, eval a X.env) :: starEach [] X.env := by rfl) : PE X (.Call (.Name "len" p) [.Call (.Name "set" p2) [a] [] q] [] pos) (RZ.tLenSetI K ta) := e ▸ RZ.pe_lenSetI hg hm hg2 hm2 ha hc na
def rSortD : List V → Hp → VK → Prop := fun xs H Q => ∃ (a : Addr) (kvs : List (Key × V)) (ks : List Int), xs = [.ref a] ∧ Rd H a (.dK kvs) ∧ kvs.map (·.1) = ks.map Sum.inl ∧ ks.length < 64 ∧ ∀ (ys : List Int) (p : Addr), ys.Perm ks → ys.Pairwise (· ≤ ·) → H p = none → Q (.ref p) (upd H p (.lst (ys.map V.int)))
theorem cSortD {X : Cx} (hc : X.calm = true) : CallR X (.builtin "sorted") rSortD := call_sortedDI hc
def rDictP (K : PySem.W.Frag) : List V → Hp → VK → Prop := fun xs H Q => ∃ (a : Addr) (ps : List Addr) (kvs : List (Key × V)), xs = [.ref a] ∧ SqL K H a (ps.map V.ref) ∧ Paired (fun p kv => SqT K H p [kV kv.1, kv.2]) ps kvs ∧ ∀ p, H p = none → Q (.ref p) (upd H p (.dK (mergeK [] kvs)))
theorem cDictP (hc : X.calm = true) (e : X.K = K := by rfl) : CallR X (.type "dict") (rDictP K) := e ▸ call_dictP hc
end
section
variable {K : PySem.W.Frag} {σ : L2.St} {H : Hp} {Q : VK} {QB : Bool → Hp → Prop}
def kLenSet (K : PySem.W.Frag) (Q : VK) : VK := fun x H1 => ∃ (l : Addr) (ns : List Int), x = .ref l ∧ SqL K H1 l (ns.map V.int) ∧ ns.Nodup ∧ ns.length ≤ 4000 ∧ Q (.int (ns.length : Nat)) H1
theorem g_lenSet {ta : TE} (k : ta σ H (kLenSet K Q)) : RZ.tLenSetI K ta σ H Q := k
def kDNi (y : V) (Q : VK) : VK := fun x H2 => ∃ a o, x = .ref a ∧ DGet H2 a y o ∧ Q (.bl (!o.isSome)) H2
theorem g_dni {ty td : TE} (k : ty σ H fun y H1 => td σ H1 (kDNi y Q)) : tDNotIn ty td σ H Q := k
theorem g_kDNi {a : Addr} {i : Int} {kvs : List (Key × V)} (h : H a = some (.dK kvs)) (k : Q (.bl (!(valV kvs (Sum.inl i)).isSome)) H) : kDNi (.int i) Q (.ref a) H := ⟨a, _, rfl, .k (k := Sum.inl i) h, k⟩
theorem g_kDPutI {v : V} {a : Addr} {i : Int} {kvs kvs' : List (Key × V)} {N : Hp → Prop} (h : H a = some (.dK kvs)) (e : putK kvs (Sum.inl i) v = kvs') (hl : kvs.length ≤ 100) (k : ∀ H', Mx [a] H H' → H' a = some (.dK kvs') → N H') : (∃ a' H4, V.ref a = .ref a' ∧ DPut H a' (.int i) v H4 ∧ N H4) :=
  ⟨a, _, rfl, DPut.k (k := Sum.inl i) h (lineL (by omega)), k _ (.put (by simp)) (by rw [upd_same, e])⟩
/-- a dict by its keys in order -/
def kvO (ms : List Int) (a : Int → Addr) : List (Key × V) := ms.map fun m => (Sum.inl m, V.ref (a m))
theorem kvO_get {a : Int → Addr} {m : Int} : ∀ {ms : List Int}, m ∈ ms → valV (kvO ms a) (Sum.inl m) = some (.ref (a m))
  | x :: ms, h => by
    unfold kvO
    rw [List.map_cons]
    by_cases e : x = m
    · subst e; exact valV_pos rfl
    · rw [valV_neg (by simp; exact e)]
      refine kvO_get (ms := ms) ?_
      rcases List.mem_cons.mp h with z | z
      · exact absurd z.symm e
      · exact z
theorem kvO_no {a : Int → Addr} {m : Int} : ∀ {ms : List Int}, m ∉ ms → valV (kvO ms a) (Sum.inl m) = none
  | [], _ => rfl
  | x :: ms, h => by
    unfold kvO
    rw [List.map_cons, valV_neg (by simp; exact fun z => h (by simp [z]))]
    exact kvO_no (ms := ms) fun z => h (List.mem_cons_of_mem _ z)
theorem kvO_in {a : Int → Addr} {m : Int} {ms : List Int} : (valV (kvO ms a) (Sum.inl m)).isSome = decide (m ∈ ms) := by
  by_cases h : m ∈ ms
  · rw [kvO_get h]; simp [h]
  · rw [kvO_no h]; simp [h]
theorem kvO_put {a : Int → Addr} {m : Int} {p : Addr} {ms : List Int} (h : m ∈ ms) : putK (kvO ms a) (Sum.inl m) (.ref p) = kvO ms (fun j => if j = m then p else a j) := by
  unfold putK
  rw [if_pos (by rw [valV_any, kvO_get h]; rfl)]
  unfold kvO
  rw [List.map_map]
  apply List.map_congr_left
  intro x _
  by_cases e : x = m
  · simp [e]
  · simp [e]
theorem kvO_len {a : Int → Addr} {ms : List Int} : (kvO ms a).length = ms.length := by unfold kvO; rw [List.length_map]
theorem kvO_new {a : Int → Addr} : ∀ {ms : List Int} {acc : List Int}, (acc ++ ms).Nodup → (kvO ms a).foldl (fun acc kv => putK acc kv.1 kv.2) (kvO acc a) = kvO (acc ++ ms) a
  | [], acc, _ => by rw [List.append_nil]; rfl
  | m :: ms, acc, nd => by
    have hm : m ∉ acc := fun h => by
      rw [List.nodup_append] at nd
      exact nd.2.2 m h m (by simp) rfl
    have e : putK (kvO acc a) (Sum.inl m) (.ref (a m)) = kvO (acc ++ [m]) a := by
      unfold putK
      rw [if_neg (by rw [valV_any, kvO_no hm]; simp)]
      unfold kvO
      rw [List.map_append]
      rfl
    show (kvO ms a).foldl _ (putK (kvO acc a) (Sum.inl m) (.ref (a m))) = _
    rw [e, kvO_new (ms := ms) (acc := acc ++ [m]) (by rw [List.append_assoc]; exact nd), List.append_assoc]
    rfl
theorem kvO_merge {a : Int → Addr} {ms : List Int} (nd : ms.Nodup) : mergeK [] (kvO ms a) = kvO ms a := kvO_new (acc := []) (by simpa using nd)
end
end Fk

set_option maxRecDepth 100000
namespace Fk
open PySem PySem.Spec PyProof.Rows L2
/-! ### the sum of a tuple of ints -/
def rSumT (K : PySem.W.Frag) : List V → Hp → VK → Prop := fun vs H Q => ∃ (a : Addr) (ns : List Int), vs = [.ref a] ∧ SqT K H a (ns.map V.int) ∧ Q (.int ns.sum) H
theorem cSumT {X : Cx} (K : PySem.W.Frag) (hc : X.calm = true) (e : X.K = K := by rfl) : CallR X (.builtin "sum") (rSumT K) := by
  subst e
  intro pins s σ H vs us Q I r h
  obtain ⟨a, ns, ev, hs, q⟩ := h
  subst ev
  obtain ⟨its, rv, ⟨o, ho, hcl, n, hd⟩, _⟩ := I.tuple hs
  rw [Vals.ref1 r]
  have hi := rv.ints
  obtain ⟨xs, ex⟩ := hi.allInts.items
  have hn : numsOf (intItems xs).toList = ns := ex ▸ hi.numsOf
  rw [nums_intItems] at hn
  rw [ex] at hd
  have ht : s.heap.IsTuple a (intItems xs) := ⟨o, ho, hcl, n, hd⟩
  refine PySem.W.ktm_sumG (I.ok.hd hc) ht fun h' tk t' hk => ⟨.int _, H, I.kept hk, ⟨t', ?_⟩, q⟩
  rw [preSum_eq, List.take_of_length_le (by simp), hn]
theorem g_sumT {K : PySem.W.Frag} {H : Hp} {Q : VK} {a : Addr} {ns : List Int} (h : SqT K H a (ns.map V.int)) (k : Q (.int ns.sum) H) : rSumT K [.ref a] H Q := ⟨a, ns, rfl, h, k⟩
end Fk

set_option maxRecDepth 100000
set_option maxHeartbeats 2000000
namespace Fk
open PySem PySem.Spec PyProof.Rows L2
/-! ### a lambda as a value: its object is known from its making on -/
def LamO (q : Str) (ar : Arguments) (bo : Expr) (sc : Scope) (cl : List (Str × Addr)) (d f : Addr) : HO :=
  .ext fun h => ∃ pm ctv : Value, h.get? f = some (PySem.W.kla_obj "<lambda>" q ar bo sc cl pm d ctv)
theorem lamO_tbl {q : Str} {ar : Arguments} {bo : Expr} {sc : Scope} {cl : List (Str × Addr)} {d f : Addr} (ps : Array Value) : LamO q ar bo sc cl d f ≠ .tbl ps := fun z => by
  unfold LamO at z
  cases z
/-- f may be called: its body reads t, wherever the names that it caught hold what they hold now -/
def Cal (X : Cx) (k : Nat) (q : Str) (t : XK → TE) (H : Hp) (f : Addr) : Prop :=
  ∃ (ar : Arguments) (bo : Expr) (sc : Scope) (d : Addr), H f = some (LamO q ar bo sc (cloFrom X.env.cells sc.names []) d f) ∧ H d = some (LamX.CodeO d q) ∧ LamX.LamS X.env.scope sc ∧ X.env.qual ++ "<lambda>" = q ∧
    (∀ (q : Str) (cl : List (Str × Addr)) (pm cv ctv : Value), bindArgs (PySem.W.kla_fn "<lambda>" q ar bo sc cl pm cv ctv) ⟨[], []⟩ = pure []) ∧
    ∀ (A : Around) (outer : List Env) (s : Shared) (H : Hp) (E : XK) (f d : Addr), Room k (A.deeper (LamX.lamEnv X sc s.heap.objs.size f d)) → PE (LamX.lamCx X A outer s H E sc f d) bo (t E)
theorem Cal.mx {X : Cx} {k : Nat} {q : Str} {t : XK → TE} {S : List Addr} {H H' : Hp} {f : Addr} (c : Cal X k q t H f) (m : Mx S H H') (n : ∀ x ∈ S, ∀ φ, H x ≠ some (.ext φ)) : Cal X k q t H' f := by
  obtain ⟨ar, bo, sc, d, h1, h2, r⟩ := c
  exact ⟨ar, bo, sc, d, m _ _ h1 fun z => n f z _ h1, m _ _ h2 fun z => n d z _ h2, r⟩
theorem Cal.extn {X : Cx} {k : Nat} {q : Str} {t : XK → TE} {H H' : Hp} {f : Addr} (c : Cal X k q t H f) (e : LamX.ExtN H H') : Cal X k q t H' f := by
  obtain ⟨ar, bo, sc, d, h1, h2, r⟩ := c
  exact ⟨ar, bo, sc, d, e _ _ h1 lamO_tbl, e _ _ h2 LamX.codeO_ne, r⟩
section
variable {X : Cx} {pins : List (Addr × Obj)} {σ : L2.St} {H : Hp} {s : Shared}
/-- the object just pushed is known -/
theorem lam_push {q : Str} {ar : Arguments} {bo : Expr} {sc : Scope} {cl : List (Str × Addr)} {d : Addr} {pm ctv : Value} {tk : Nat} (I : Inv X pins σ H s) :
    Inv X pins σ (upd H s.heap.objs.size (LamO q ar bo sc cl d s.heap.objs.size)) { s with heap := s.heap.push (PySem.W.kla_obj "<lambda>" q ar bo sc cl pm d ctv), toks := tk } := by
  have at_ := Heap.get?_push_size (o := PySem.W.kla_obj "<lambda>" q ar bo sc cl pm d ctv) s.heap rfl
  refine I.laid (fun _ _ e => Heap.get?_push_of_some _ e) (Nat.le_refl _) ⟨⟨pm, ctv, at_⟩, ⟨_, at_⟩, ?_⟩
  rintro g1 g2 ⟨pm', ctv', e⟩ st
  exact ⟨pm', ctv', st _ e⟩
theorem lam_new {T : List (Addr × Str)} {c P : Addr} {ar : Arguments} {bo : Expr} {sc : Scope} {pos : Pos} {E Q : Value → Shared → Prop} (I : Inv X pins σ H s) (TB : LamX.TabB X.base X.mg c P) (hcode : X.env.code = .ref c)
    (hm : (P, X.env.qual ++ "<lambda>") ∈ T) (hu : ∀ p ∈ T, p.1 = P → p.2 = X.env.qual ++ "<lambda>") (hT : LamX.Tabs T H) (hdef : defaultsOf ar X.env = ([], [])) (hfree : ∀ y ∈ sc.names, y.2 = .free → ∃ c, X.env.cells.lookup y.1 = some c)
    (h : ∀ (f d : Addr) (H1 : Hp) (s1 : Shared), Inv X pins σ H1 s1 → LamX.ExtN H H1 → LamX.Tabs T H1 → H f = none → H1 f = some (LamO (X.env.qual ++ "<lambda>") ar bo sc (cloFrom X.env.cells sc.names []) d f) → H1 d = some (LamX.CodeO d (X.env.qual ++ "<lambda>")) → Q (.ref f) s1) :
    wpAny (model X.prog X.w) X.A (eval (.Lambda ar bo sc pos) X.env) Q E s := by
  obtain ⟨ps, tabH, tri, among⟩ := hT _ hm
  have tabS : s.heap.get? P = some { cls := .none, data := .fields ps } := I.hok _ _ tabH
  have bI := TB.bm.keeps I.bk
  have cI := TB.code.keeps I.bk
  have gI := I.mod.glob.keeps I.bk
  refine PySem.W.kla_eval hdef ?_
  rcases look : codeAmong pos ps.toList with _ | cv
  · refine PySem.W.kla_makeFunction (mg := X.mg) (c := c) (P := P) (ps := ps) (closure_ok hfree) I.ok.glob gI hcode cI tabS tri look TB.gP bI ?_
    intro d ctv g tk ext above below rec tab
    obtain ⟨d', od, vs, tt, ed, god, dod, nod⟩ := rec
    cases ed
    have J := LamX.inv_table (t' := tk) (h' := g) (more := #[rawInt pos.line, rawInt pos.col, .ref d]) I tabH (fun b o ne e => ext b o ne e) tab above ⟨od, vs, tt, god, dod, nod⟩
    have newD : H d = none := I.hok.fresh above
    generalize hH1 : upd (upd H P (.tbl (ps ++ #[rawInt pos.line, rawInt pos.col, .ref d]))) d (LamX.CodeO d (X.env.qual ++ "<lambda>")) = H1 at J
    have atD : H1 d = some (LamX.CodeO d (X.env.qual ++ "<lambda>")) := by rw [← hH1]; exact upd_same
    have atP : H1 P = some (.tbl (ps ++ #[rawInt pos.line, rawInt pos.col, .ref d])) := by rw [← hH1, upd_ne (ne_of_none tabH newD)]; exact upd_same
    have old : ∀ b o, H b = some o → b ≠ P → H1 b = some o := fun b o e ne => by rw [← hH1, upd_ne (ne_of_none e newD), upd_ne ne]; exact e
    have ex1 : LamX.ExtN H H1 := fun b o e nt => old b o e fun z => by subst z; rw [tabH] at e; exact nt ps (Option.some.inj e).symm
    have newF : H1 g.objs.size = none := J.hok.fresh (Nat.le_refl _)
    have J2 := lam_push (q := X.env.qual ++ "<lambda>") (ar := ar) (bo := bo) (sc := sc) (cl := cloFrom X.env.cells sc.names []) (d := d) (pm := (X.mg "__name__").getD .none) (ctv := ctv) (tk := tk) J
    have grow : ∀ b o, H1 b = some o → upd H1 g.objs.size (LamO (X.env.qual ++ "<lambda>") ar bo sc (cloFrom X.env.cells sc.names []) d g.objs.size) b = some o := fun b o e => by rw [upd_ne (ne_of_none e newF)]; exact e
    have tabs1 : LamX.Tabs T H1 := by
      intro p hp
      by_cases pe : p.1 = P
      · have q2 := hu p hp pe
        rw [pe, q2]
        have tl : (ps ++ #[rawInt pos.line, rawInt pos.col, .ref d]).toList = ps.toList ++ [rawInt pos.line, rawInt pos.col, .ref d] := by simp
        refine ⟨_, atP, by rw [tl]; exact PySem.TriplesOk_snoc _ _ _ _ tri, ?_⟩
        intro p2 cv2 am2
        rw [tl] at am2
        cases LamX.among_app _ tri am2 with
        | inl o => obtain ⟨c0, a1, a2⟩ := among p2 cv2 o; exact ⟨c0, a1, ex1 _ _ a2 LamX.codeO_ne⟩
        | inr o => exact ⟨d, o, atD⟩
      · obtain ⟨ps2, b1, b2, b3⟩ := hT p hp
        refine ⟨ps2, old _ _ b1 pe, b2, ?_⟩
        intro p2 cv2 am2
        obtain ⟨c0, a1, a2⟩ := b3 p2 cv2 am2
        exact ⟨c0, a1, ex1 _ _ a2 LamX.codeO_ne⟩
    exact h _ d _ _ J2 (fun b o e nt => grow b o (ex1 b o e nt)) (tabs1.ext grow) (I.hok.fresh (Nat.le_trans above (Nat.le_of_lt below))) upd_same (grow _ _ atD)
  · obtain ⟨d, ed, atD⟩ := among pos cv look
    subst ed
    refine PySem.W.kla_makeFunctionHit (mg := X.mg) (c := c) (P := P) (ps := ps) (closure_ok hfree) I.ok.glob gI hcode cI tabS tri look bI ?_
    intro ctv g tk keep above
    have J : Inv X pins σ H { s with heap := g, toks := tk } := I.kept keep
    have newF : H g.objs.size = none := J.hok.fresh (Nat.le_refl _)
    have J2 := lam_push (q := X.env.qual ++ "<lambda>") (ar := ar) (bo := bo) (sc := sc) (cl := cloFrom X.env.cells sc.names []) (d := d) (pm := (X.mg "__name__").getD .none) (ctv := ctv) (tk := tk) J
    have grow : ∀ b o, H b = some o → upd H g.objs.size (LamO (X.env.qual ++ "<lambda>") ar bo sc (cloFrom X.env.cells sc.names []) d g.objs.size) b = some o := fun b o e => by rw [upd_ne (ne_of_none e newF)]; exact e
    exact h _ d _ _ J2 (fun b o e _ => grow b o e) (hT.ext grow) newF upd_same (grow _ _ atD)
end
def tLamV (T : List (Addr × Str)) (q : Str) (X : Cx) (k : Nat) (t : XK → TE) : TE := fun _ H Q => LamX.Tabs T H ∧ ∀ f H1, LamX.ExtN H H1 → LamX.Tabs T H1 → H f = none → Cal X k q t H1 f → Q (.ref f) H1
theorem pe_lamV {X : Cx} (k : Nat) {c P : Addr} {ar : Arguments} {bo : Expr} {sc : Scope} {t : XK → TE} {pos : Pos} (TB : LamX.TabB X.base X.mg c P) (hcode : X.env.code = .ref c) (L : LamX.LamS X.env.scope sc) (hdef : defaultsOf ar X.env = ([], []))
    (hbind : ∀ (q : Str) (cl : List (Str × Addr)) (pm cv ctv : Value), bindArgs (PySem.W.kla_fn "<lambda>" q ar bo sc cl pm cv ctv) ⟨[], []⟩ = pure [])
    (hbody : ∀ (A : Around) (outer : List Env) (s : Shared) (H : Hp) (E : XK) (f d : Addr), Room k (A.deeper (LamX.lamEnv X sc s.heap.objs.size f d)) → PE (LamX.lamCx X A outer s H E sc f d) bo (t E)) :
    PE X (.Lambda ar bo sc pos) (tLamV [(P, X.env.qual ++ "<lambda>")] (X.env.qual ++ "<lambda>") X k t) := by
  refine ⟨fun pins s σ H Q I w => ?_⟩
  refine lam_new I TB hcode (List.mem_singleton.mpr rfl) (fun p hp _ => by rw [List.mem_singleton.mp hp]) w.1 hdef (L.has I.ok) ?_
  intro f d H1 s1 I1 ex tb nf af ad
  exact ⟨.ref f, H1, I1, rfl, w.2 f H1 ex tb nf ⟨ar, bo, sc, d, af, ad, L, rfl, hbind, hbody⟩⟩
/-- x(), where x holds a known lambda, in a def that was called from the frame that made it -/
theorem pe_lamRun {X : Cx} {pins : List (Addr × Obj)} {σ : L2.St} {H : Hp} {s : Shared} {CXg : CXT} {Eg : XK} {Ng : List Str} {qg : Str} {sg : Scope} {g f d : Addr} {cdg : Value} {q : Str} {ar : Arguments} {bo : Expr} {sc : Scope} {k i : Nat} {a : Str} {pn : List (Addr × Obj)} {xe : Value → Shared → Prop} {W : WX} {E : XK} {t : TE} {p1 p2 : Pos}
    (I : Inv X pins σ H s) (L : LamX.LamS X.env.scope sc) (hq : X.env.qual ++ "<lambda>" = q)
    (hbind : ∀ (q : Str) (cl : List (Str × Addr)) (pm cv ctv : Value), bindArgs (PySem.W.kla_fn "<lambda>" q ar bo sc cl pm cv ctv) ⟨[], []⟩ = pure [])
    (tk : Takes ((cxOf CXg X.prog X.w X.K X.mg X.base Ng qg sg g cdg X.A X.stack s H Eg).tr pn xe) W) (hW : ∀ cls d σ' H', E cls d H' → W cls d σ' H') (hr : Room (k + 1) (X.A.deeper (envOfC qg sg s.heap.objs.size g cdg)))
    (hbody : ∀ (A : Around) (outer : List Env) (s : Shared) (H : Hp), Room k (A.deeper (LamX.lamEnv X sc s.heap.objs.size f d)) → PE (LamX.lamCx X A outer s H E sc f d) bo t)
    (hN : Ng[i]? = some a) (hv : Vis sg a) (hd : (a == ("__debug__" : Str)) = false := by decide) (hcd : (a == ("__classdict__" : Str)) = false := by decide) :
    PE ((cxOf CXg X.prog X.w X.K X.mg X.base Ng qg sg g cdg X.A X.stack s H Eg).tr pn xe) (.Call (.Name a p1) [] [] p2)
      (fun σZ HZ Q => σZ[i]? = some (some (.ref f)) ∧ HZ d = some (LamX.CodeO d q) ∧ HZ f = some (LamO q ar bo sc (cloFrom X.env.cells sc.names []) d f) ∧ t σ HZ Q) := by
  subst hq
  refine ⟨fun pinsZ sZ σZ HZ Q IZ w => ?_⟩
  obtain ⟨slot, codeH, objH, rest⟩ := w
  have ev := (pe_var (pos := p1) (i := i) hN hv hd hcd).run pinsZ sZ σZ HZ (fun v H1 => v = .ref f ∧ H1 = HZ) IZ ⟨.ref f, slot, rfl, rfl⟩
  refine wpAny_Call_Name_kw (thn ev ?_)
  rintro u s1 ⟨v, H1, I1, rv, ev1, eh1⟩
  subst ev1 eh1
  have hu : u = Value.ref f := rv
  subst hu
  obtain ⟨⟨pm, ctv, objS⟩, _, _⟩ := I1.hok _ _ objH
  obtain ⟨⟨od, vs, tt, god, dod, nod⟩, _, _⟩ := I1.hok _ _ codeH
  refine PySem.W.callWith_F0 ⟨_, _, _, _, objS⟩ ?_
  have run : codeAny (model X.prog X.w) (X.A.deeper (envOfC qg sg s.heap.objs.size g cdg)) (.call (.ref f) ⟨[], []⟩) (CR (L2.CX X.prog X.w) (envOfC qg sg s.heap.objs.size g cdg :: X.stack) X.prog X.w H1 s1 Q E) s1 := by
    refine PySem.W.kla_callFunE hr.depth objS rfl L.co L.gen rfl ⟨d, od, vs, tt, rfl, god, dod, nod⟩ ?_
    rw [hbind]
    refine wpAny_pure (wpAny_newFunctionEnv (fun y hy => (L.own y hy).2) (fun y hy => by cases hy) (fun g1 nsg same => ⟨I1.nolimit.fresh _ same, ?_⟩) L.kind)
    show codeAny _ _ (.expr bo (LamX.lamEnv X sc s1.heap.objs.size f d)) _ _
    have up : ∀ b o, s1.heap.get? b = some o → g1.get? b = some o := fun b o e => same.extBut b o (Nat.ne_of_lt (Heap.lt_size e)) (Heap.get?_push_of_some _ e)
    have J : Inv (LamX.lamCx X (X.A.deeper (envOfC qg sg s.heap.objs.size g cdg)) (envOfC qg sg s.heap.objs.size g cdg :: X.stack) s1 H1 E sc f d) [] σ H1 { s1 with heap := g1, toks := s1.toks + ([] : List (Str × Value)).length } :=
      LamX.lam_start2 I L I1.env0 hr.hd I1.base nsg up
    refine PySem.W.kla_codeExpr (wpAny_mono ((hbody _ _ s1 H1 (hr.deeper _)).run [] _ _ _ Q J rest) ?_ fun _ _ z => z)
    rintro v s' ⟨w', H', J', rv', q'⟩
    exact ⟨w', H', J'.os, J'.bare, J'.base, J'.hok, rv', q'⟩
  refine wpAny_call (codeAny_mono run ?_)
  intro r s' out
  match r, out with
  | .error e, out => exact passes_call tk hW pinsZ σZ H1 s1 e s' I1 out
  | .ok (.ret u), out => exact I1.after out
  | .ok .next, out => exact out.elim
  | .ok .brk, out => exact out.elim
  | .ok .cont, out => exact out.elim
end Fk

set_option maxRecDepth 100000
set_option maxHeartbeats 2000000
namespace Fk
open PySem PySem.Spec PyProof.Rows L2
def tLcI (wi : TI) (g : TG) (tt : L2.St → TT) (te : TE) (vs : List Nat) : TE := fun σ H Q => tLc wi g (tt σ) te vs σ H Q
theorem g_lcI {wi : TI} {g : TG} {tt : L2.St → TT} {te : TE} {vs : List Nat} {σ : L2.St} {H : Hp} {Q : VK} (k : wi σ H (kLc g (tt σ) te vs σ Q)) : tLcI wi g tt te vs σ H Q := k
/-! ### a comprehension whose tests lean on the names of the def around it: they are told how that frame stood -/
theorem pe_lcI {X : Cx} {elt tg iter : Expr} {ifs : List Expr} {scope : Scope} {own : List (Str × Nat)} {pos : Pos} {wi : TI} {g : TG} {tt : L2.St → TT} {te : TE} (hc : X.calm = true) (hN : X.N.Nodup) (hi : PI X tg iter wi) (ok : BlkOk X.N X.env.scope scope own)
    (hg : ∀ (s : Shared) (H : Hp) (C : Addr) (cl : List (Str × Addr)) (fp : List Addr), PG (X.blk s H scope (compEnvC scope cl C X.env) fp) tg g)
    (ht : ∀ (ps : List (Addr × Obj)) (σ0 : L2.St) (s : Shared) (H : Hp) (C : Addr) (cl : List (Str × Addr)) (fp : List Addr), Inv X ps σ0 H s → (∀ b ∈ fp, FpOk X ps H b) → PTs (X.blk s H scope (compEnvC scope cl C X.env) fp) ifs (tt σ0))
    (he : ∀ (s : Shared) (H : Hp) (C : Addr) (cl : List (Str × Addr)) (fp : List Addr), PE (X.blk s H scope (compEnvC scope cl C X.env) fp) elt te) (hs : ∀ x, foldedSetIterable iter X.env x = pure x := by intro _; rfl) :
    PE X (.ListComp elt [⟨tg, iter, ifs, 0⟩] scope pos) (tLcI wi g tt te (own.map (·.2))) := by
  refine ⟨fun pins s σ H Q I w => ?_⟩
  rw [eval_ListComp]
  have caught : ∀ y ∈ scope.names, y.2 = .free → ∃ c, X.env.cells.lookup y.1 = some c := by
    intro y hy ey
    cases ok.free y hy ey with
    | inl z => exact I.ok.has _ (.inl z)
    | inr z => exact I.ok.has _ (.inr z)
  refine wpAny_comprehension_free rfl hs (closure_ok caught) ok.kind ?_ ?_
  · intro y hy ey
    rw [ok.uniq y hy, ey]
  refine thn (hi.run pins s σ H _ I w) ?_
  intro _ _ come
  refine thn come ?_
  rintro _ sA ⟨it, fp, tn, J, HA, rfl, IA, turns, tA, fA, reads⟩
  refine wpAny_newObj_type (newEnv_comp ?_) (by show 0 ≤ sizeLine; decide)
  have newL : HA sA.heap.objs.size = none := IA.hok.fresh (Nat.le_refl _)
  obtain ⟨W, ⟨m0, w0⟩, step⟩ := reads _ newL
  -- the frame, with the new list known
  obtain ⟨sB, eB⟩ : ∃ sB : Shared, sB = { sA with heap := sA.heap.push { cls := .type "list", data := .seq ([] : List Value).toArray } } := ⟨_, rfl⟩
  obtain ⟨L, eL⟩ : ∃ L, L = sA.heap.objs.size := ⟨_, rfl⟩
  have hB : sB.heap = sA.heap.push { cls := .type "list", data := .seq ([] : List Value).toArray } := by rw [eB]
  have IB : Inv X pins σ (upd HA L (.lst [])) sB := by
    subst eB eL
    exact IA.laid (t' := sA.toks) (fun _ _ z => Heap.get?_push_of_some _ z) (Nat.le_refl _) ⟨Nat.zero_le _, [], 0, .nil, Heap.get?_push_size _ rfl⟩
  have inA : ∀ b ∈ fp, b < sA.heap.objs.size := by
    intro b hb
    obtain ⟨_, z, _⟩ := turns.obj _ _ tA b hb
    exact Heap.lt_size z
  have fB : ∀ b ∈ fp, FpOk X pins (upd HA L (.lst [])) b := by
    intro b hb
    refine ⟨?_, (fA b hb).2⟩
    rw [upd_ne (by rw [eL]; exact Nat.ne_of_lt (inA b hb))]
    exact (fA b hb).1
  have ltB : ∀ b ∈ fp, b < sB.heap.objs.size := by
    intro b hb
    rw [hB, Heap.size_push]
    exact Nat.lt_succ_of_lt (inA b hb)
  rw [← eL] at w0 step newL ⊢
  have IC := block_start IB ok hN fun b hb => ⟨fB b hb, ltB b hb⟩
  -- the block's own environment
  obtain ⟨ce, eC⟩ : ∃ ce, ce = compEnvC scope (cellsFrom (sB.heap.objs.size + 1) scope.names (cloFrom X.env.cells scope.names [])) sB.heap.objs.size X.env := ⟨_, rfl⟩
  have blkG := hg sB (upd HA L (.lst [])) sB.heap.objs.size (cellsFrom (sB.heap.objs.size + 1) scope.names (cloFrom X.env.cells scope.names [])) fp
  have blkT := ht pins σ sB (upd HA L (.lst [])) sB.heap.objs.size (cellsFrom (sB.heap.objs.size + 1) scope.names (cloFrom X.env.cells scope.names [])) fp IB fB
  have blkE := he sB (upd HA L (.lst [])) sB.heap.objs.size (cellsFrom (sB.heap.objs.size + 1) scope.names (cloFrom X.env.cells scope.names [])) fp
  rw [← eC] at IC blkG blkT blkE
  obtain ⟨HB, eH⟩ : ∃ HB, HB = upd HA L (.lst []) := ⟨_, rfl⟩
  obtain ⟨sC, eS⟩ : ∃ sC : Shared, sC = { sB with heap := pushCells (sB.heap.push { cls := .type "dict", data := .dict #[] }) scope.names } := ⟨_, rfl⟩
  rw [← eH] at IB IC blkG blkT blkE w0 fB
  rw [← eS] at IC
  have locC : ce.locals = sB.heap.objs.size := by rw [eC]; rfl
  have tC : tn 0 sC.heap := by
    refine turns.keep _ _ _ tA fun b _ o z => ?_
    rw [eS]
    refine pushCells_keeps _ _ _ _ (Heap.get?_push_of_some _ ?_)
    rw [hB]
    exact Heap.get?_push_of_some _ z
  have within : ∀ {σ' : L2.St} {H' : Hp} {s' : Shared}, Inv (X.blk sB HB scope ce fp) [] σ' H' s' → (∀ b ∈ fp, H' b = none) → ∀ b ∈ fp, FpOk (X.blk sB HB scope ce fp) [] H' b := by
    intro _ _ _ Iz hn b hb
    exact ⟨hn b hb, (Iz.ok.exf b hb).1, Iz.ok.exfs b hb, .inl hb, (fun x c z => (Iz.ok.exf b hb).2 x c z), fun p hp => by cases hp⟩
  show codeAny _ _ (.compStart (.ListComp elt [⟨tg, iter, ifs, 0⟩] scope pos) 0 (.ref it) (.ref L) (compEnvC scope (cellsFrom ((sA.heap.push { cls := .type "list", data := .seq ([] : List Value).toArray }).objs.size + 1) scope.names (cloFrom X.env.cells scope.names [])) (sA.heap.push { cls := .type "list", data := .seq ([] : List Value).toArray }).objs.size X.env)) (compPost (model X.prog X.w) X.A X.xe none (EP X pins σ Q) (.ref L) (sA.heap.push { cls := .type "list", data := .seq ([] : List Value).toArray }).objs.size) _
  rw [← hB, ← eC]
  have goal : codeAny (model X.prog X.w) X.A (.compLoop (.ListComp elt [⟨tg, iter, ifs, 0⟩] scope pos) 0 (.ref it) (.ref L) ce) (compPost (model X.prog X.w) X.A X.xe none (EP X pins σ Q) (.ref L) sB.heap.objs.size) sC := by
    refine compLoop_any (fun n s' => ∃ i H', Inv (X.blk sB HB scope ce fp) [] (wipe σ (own.map (·.2))) H' s' ∧ tn i s'.heap ∧ (∀ b ∈ fp, H' b = none) ∧ W i n H') ?_ m0 ⟨0, HB, IC, tC, fun b hb => (fB b hb).1, w0⟩
    rintro n sD ⟨i, HD, ID, tD, nD, wD⟩
    cases step i n HD wD with
    | inl stop =>
      refine thnF (turns.done (X.blk sB HB scope ce fp) rfl rfl rfl hc i [] sD _ HD (fun _ _ => False) ID (within ID nD) tD stop.1) ?_
      rintro _ sE ⟨rfl, IE⟩
      have IX : Inv X pins σ HD sE := IB.call' (ch := fp) IE.os IE.base IE.hok IE.bare fun b hb => ⟨(fB b hb).2.2.2.1, (fB b hb).2.1, (fB b hb).2.2.2.2.1, (fB b hb).2.2.2.2.2⟩
      obtain ⟨m, hn, _⟩ := IE.loc
      have hn : sE.heap.Ns ce.locals m := hn
      have fr : HD ce.locals = none := IE.free
      rw [locC] at hn fr
      obtain ⟨f0, f1, f2, f3, f4, f5⟩ := IB.fpOk (H' := HD) (Nat.le_refl _) fr
      exact ⟨m, hn, fun h'' same => ⟨.ref L, HD, IX.turned (t' := sE.toks) (fun b o ne z => (same.2 b ne).trans z) f0 f1 f3 f4 f5, rfl, stop.2⟩⟩
    | inr go =>
      obtain ⟨here, Nx, toN, turn⟩ := go
      refine thnF (turns.item (X.blk sB HB scope ce fp) rfl rfl rfl hc i [] sD _ HD (fun _ _ => False) ID (within ID nD) tD here) ?_
      rintro _ sE ⟨u, rfl, atE⟩
      refine thnF atE ?_
      rintro _ sF ⟨x, HF, IF, rF, yF, tF, nF⟩
      refine thnF (blkG.run _ sF _ HF x u _ (IF.pinned (within IF nF) (turns.obj _ _ tF)) rF (turn x HF yF)) ?_
      rintro _ sG ⟨σG, HG, IG, wG, qG⟩
      refine thnF (blkT.run _ sG σG HG _ IG qG) ?_
      rintro b sI ⟨HI, II, qI⟩
      have next : ∀ {s' : Shared} {H' : Hp}, Inv (X.blk sB HB scope ce fp) ([] ++ pinsAt fp sF.heap) σG H' s' → Nx H' → ∃ m, m < n ∧ ∃ i H', Inv (X.blk sB HB scope ce fp) [] (wipe σ (own.map (·.2))) H' s' ∧ tn i s'.heap ∧ (∀ b ∈ fp, H' b = none) ∧ W i m H' := by
        intro s' H' Iz nx
        obtain ⟨m', lt, wz⟩ := toN H' nx
        have held : ∀ b ∈ fp, ∀ o, sF.heap.get? b = some o → s'.heap.get? b = some o ∧ H' b = none := by
          intro b hb o z
          have p := Iz.pin (b, o) (List.mem_append_right _ (List.mem_append_right _ (mem_pinsAt hb z)))
          exact ⟨p.1, p.2.1⟩
        refine ⟨m', lt, i + 1, H', ?_, turns.keep _ _ _ tF (fun b hb o z => (held b hb o z).1), ?_, wz⟩
        · refine (Iz.unpinned (pins := [])).weak (by rw [← wG, wipe_length]) fun j v z => ?_
          rw [← wG] at z
          exact (wipe_some z).1
        · intro b hb
          obtain ⟨o, z, _⟩ := turns.obj _ _ tF b hb
          exact (held b hb o z).2
      match b, qI with
      | false, qI =>
        have qI : Nx HI := qI
        exact next II qI
      | true, qI =>
        refine thnF (blkE.run _ sI σG HI _ II qI) ?_
        rintro z sJ ⟨y, HJ, IJ, rJ, acc, accH, accZ, nx⟩
        exact app_ok (X := X.blk sB HB scope ce fp) IJ accH accZ rJ fun sK IK => next IK nx
  have fin := codeAny_compStart_list goal (turns.self X.A 0 _ _ _ tC goal)
  subst eB eS
  exact fin
/-! ### len(set(xs)), xs with equals -/
def numSet (ns : List Int) : Nat := (PyProof.Rows.firstMet (fun i => ns.getD i 0) ns.length).length
def tLenSetG (K : PySem.W.Frag) (ta : TE) : TE := fun σ H Q => ta σ H fun x H1 => ∃ (l : Addr) (ns : List Int), x = .ref l ∧ SqL K H1 l (ns.map V.int) ∧ ns.length ≤ 4000 ∧ Q (.int (numSet ns : Nat)) H1
theorem lenSetG {X : Cx} (K : PySem.W.Frag) {a : Expr} {ta : TE} {p p2 q pos : Pos} (g1 : Gl X "len") (m1 : X.mg "len" = none) (g2 : Gl X "set") (m2 : X.mg "set" = none) (ha : PE X a ta) (hc : X.calm = true := by rfl) (eK : X.K = K := by rfl)
    (one : starEach [a] X.env = (false, eval a X.env) :: starEach [] X.env := by rfl) : PE X (.Call (.Name "len" p) [.Call (.Name "set" p2) [a] [] q] [] pos) (tLenSetG K ta) := by
  subst eK
  refine ⟨fun pins s σ H Q I w => ?_⟩
  refine Call_ (ld_blt I g1 m1 boot_len (PyProof.Rows.callWith_builtin1 (PyProof.Rows.args_cons ?_ rfl) rfl rfl))
  refine Call_ (ld_blt I g2 m2 PyProof.Rows.boot_set (PyProof.Rows.callWith_type1 (PyProof.Rows.args_cons (thn (ha.run pins s σ H _ I w) ?_) one) one rfl))
  rintro v sA ⟨x, HA, IA, rA, l, ns, rfl, lst, len, k⟩
  refine PyProof.Rows.args_nil ?_
  cases rA
  obtain ⟨its, rv, pl, _⟩ := IA.list lst
  have sz : its.toArray.size = ns.length := by rw [List.size_toArray, ← rv.length, List.length_map]
  refine call_set_list (IA.ok.hd hc) pl.isList (by simpa using RZ.intsAre_vals rv) (by rw [sz]; unfold scanBound; omega) ?_
  intro g tk made keep
  refine PyProof.Rows.args_nil ?_
  rw [sz] at made
  obtain ⟨o, es, ep, t, ho, hex, hd, _, _, _, hf, hn⟩ := made
  have le := PyProof.Rows.firstMet_length_le (fun i => ns.getD i 0) ns.length
  have IB : Inv X pins σ HA { sA with heap := g, toks := tk } := IA.kept fun b o z => keep b o (Heap.lt_size z) z
  refine call_len_set ho hex hd hf (by rw [hn]; omega) ⟨.int (numSet ns : Nat), HA, IB.tok _, ⟨_, by rw [hn] <;> rfl⟩, k⟩
end Fk

set_option maxRecDepth 100000
namespace Fk
open PySem PySem.Spec PyProof.Rows L2
/-! ### the text by places -/
def top (i : Nat) : Stmt := PySem.Challenge.pw_frankmeter_k01_numbers_and_banks.main.body.getD i (.Pass ⟨0, 0, 0, 0⟩)
abbrev s_at_first : Stmt := top 14
abbrev N_at_first : List Str := []
theorem sc_at_first : FnScope N_at_first [] (defScope s_at_first) := ⟨rfl, rfl, rfl, by decide +kernel, rfl, by decide +kernel, by decide +kernel⟩
abbrev s_standing : Stmt := top 15
abbrev N_standing : List Str := ["cells", "whole", "bank"]
theorem sc_standing : FnScope N_standing ["cells"] (defScope s_standing) := ⟨rfl, rfl, rfl, by decide +kernel, rfl, by decide +kernel, by decide +kernel⟩
abbrev s_bank_of : Stmt := top 16
abbrev N_bank_of : List Str := ["cells", "bank"]
theorem sc_bank_of : FnScope N_bank_of ["cells"] (defScope s_bank_of) := ⟨rfl, rfl, rfl, by decide +kernel, rfl, by decide +kernel, by decide +kernel⟩
abbrev s_need_key : Stmt := top 21
abbrev N_need_key : List Str := ["key"]
theorem sc_need_key : FnScope N_need_key ["key"] (defScope s_need_key) := ⟨rfl, rfl, rfl, by decide +kernel, rfl, by decide +kernel, by decide +kernel⟩
abbrev s_need_number : Stmt := top 22
abbrev N_need_number : List Str := ["number"]
theorem sc_need_number : FnScope N_need_number ["number"] (defScope s_need_number) := ⟨rfl, rfl, rfl, by decide +kernel, rfl, by decide +kernel, by decide +kernel⟩
abbrev s_Meter___init__ : Stmt := inClass (top 23) 0
abbrev N_Meter___init__ : List Str := ["self", "number", "key"]
theorem sc_Meter___init__ : FnScope N_Meter___init__ ["self", "number", "key"] (defScope s_Meter___init__) := ⟨rfl, rfl, rfl, by decide +kernel, rfl, by decide +kernel, by decide +kernel⟩
abbrev s_Meter_number : Stmt := inClass (top 23) 1
abbrev N_Meter_number : List Str := ["self"]
theorem sc_Meter_number : FnScope N_Meter_number ["self"] (defScope s_Meter_number) := ⟨rfl, rfl, rfl, by decide +kernel, rfl, by decide +kernel, by decide +kernel⟩
abbrev s_recovered : Stmt := top 24
abbrev N_recovered : List Str := ["number", "key", "cells", "stamps", "found"]
theorem sc_recovered : FnScope N_recovered ["number", "key", "cells", "stamps"] (defScope s_recovered) := ⟨rfl, rfl, rfl, by decide +kernel, rfl, by decide +kernel, by decide +kernel⟩
abbrev s_House___init__ : Stmt := inClass (top 27) 0
abbrev N_House___init__ : List Str := ["self", "key", "meters", "meter"]
theorem sc_House___init__ : FnScope N_House___init__ ["self", "key", "meters"] (defScope s_House___init__) := ⟨rfl, rfl, rfl, by decide +kernel, rfl, by decide +kernel, by decide +kernel⟩
abbrev s__law_start : Stmt := top 29
abbrev N__law_start : List Str := ["_law_script", "_law_mixed", "_law_cell"]
theorem sc__law_start : FnScope N__law_start ["_law_script"] (defScope s__law_start) := ⟨rfl, rfl, rfl, by decide +kernel, rfl, by decide +kernel, by decide +kernel⟩
abbrev s__law_drawn : Stmt := top 30
abbrev N__law_drawn : List Str := ["_law_state", "_law_many", "_law_found", "_law_cell"]
theorem sc__law_drawn : FnScope N__law_drawn ["_law_state", "_law_many"] (defScope s__law_drawn) := ⟨rfl, rfl, rfl, by decide +kernel, rfl, by decide +kernel, by decide +kernel⟩
abbrev s__law_same : Stmt := top 31
abbrev N__law_same : List Str := ["_law_found", "_law_due", "_law_k"]
theorem sc__law_same : FnScope N__law_same ["_law_found", "_law_due"] (defScope s__law_same) := ⟨rfl, rfl, rfl, by decide +kernel, rfl, by decide +kernel, by decide +kernel⟩
abbrev s__law_kind : Stmt := top 32
abbrev N__law_kind : List Str := ["_law_work", "e", "_law_kinds", "_law_words"]
theorem sc__law_kind : FnScope N__law_kind ["_law_work"] (defScope s__law_kind) := ⟨rfl, rfl, rfl, by decide +kernel, rfl, by decide +kernel, by decide +kernel⟩
abbrev s__law_far : Stmt := top 33
abbrev N__law_far : List Str := ["_law_state", "_law_most", "_law_far_here"]
theorem sc__law_far : FnScope N__law_far ["_law_state", "_law_most"] (defScope s__law_far) := ⟨rfl, rfl, rfl, by decide +kernel, rfl, by decide +kernel, by decide +kernel⟩
abbrev s__law_cells : Stmt := top 34
abbrev N__law_cells : List Str := ["_law_state", "_law_found", "_law_k"]
theorem sc__law_cells : FnScope N__law_cells ["_law_state"] (defScope s__law_cells) := ⟨rfl, rfl, rfl, by decide +kernel, rfl, by decide +kernel, by decide +kernel⟩
abbrev s_law : Stmt := top 35
abbrev N_law : List Str := ["_law_script", "_law_state", "_law_turn", "_law_cells_here", "_law_due", "_law_handed", "_law_number", "_law_key", "_law_odd", "_law_bad", "_law_works", "_law_work"]
theorem sc_law : FnScope N_law ["_law_script"] (defScope s_law) := ⟨rfl, rfl, rfl, by decide +kernel, rfl, by decide +kernel, by decide +kernel⟩
/-! ### what the text's top leaves -/
structure Tx (K : PySem.W.Frag) (mg : Str → Option Value) where
  g_WIDE : ∃ t, mg "WIDE" = some (.int 10 t)
  g_TURN : ∃ t, mg "TURN" = some (.int 1 t)
  g_MOST_NUMBER : ∃ t, mg "MOST_NUMBER" = some (.int 9999 t)
  g_MOST_KEY : ∃ t, mg "MOST_KEY" = some (.int 999981 t)
  g_MOST_METERS : ∃ t, mg "MOST_METERS" = some (.int 4 t)
  n_ValueError : mg "ValueError" = none
  n_bool : mg "bool" = none
  n_dict : mg "dict" = none
  n_int : mg "int" = none
  n_isinstance : mg "isinstance" = none
  n_len : mg "len" = none
  n_list : mg "list" = none
  n_range : mg "range" = none
  n_set : mg "set" = none
  n_str : mg "str" = none
  n_tuple : mg "tuple" = none
  E_FrankError : Addr
  x_FrankError : ExF K mg "FrankError" E_FrankError
  E_NoBank : Addr
  x_NoBank : ExF K mg "NoBank" E_NoBank
  E_BadNumber : Addr
  x_BadNumber : ExF K mg "BadNumber" E_BadNumber
  E_BadAmount : Addr
  x_BadAmount : ExF K mg "BadAmount" E_BadAmount
  E_BadCode : Addr
  x_BadCode : ExF K mg "BadCode" E_BadCode
  E_Short : Addr
  x_Short : ExF K mg "Short" E_Short
  E_Down : Addr
  x_Down : ExF K mg "Down" E_Down
  E_Up : Addr
  x_Up : ExF K mg "Up" E_Up
  E_NoMeter : Addr
  x_NoMeter : ExF K mg "NoMeter" E_NoMeter
  hd_FrankError : PySem.W.hasDictIn K E_FrankError = true
  i_NoBank : ExI K E_NoBank E_FrankError
  i_BadNumber : ExI K E_BadNumber E_FrankError
  i_BadAmount : ExI K E_BadAmount E_FrankError
  i_BadCode : ExI K E_BadCode E_FrankError
  i_Short : ExI K E_Short E_FrankError
  i_Down : ExI K E_Down E_FrankError
  i_Up : ExI K E_Up E_FrankError
  i_NoMeter : ExI K E_NoMeter E_FrankError
  kt_NoBank_NoBank : PySem.W.kitOne K (.ref E_NoBank) (.ref E_NoBank) = some true
  kt_NoBank_BadNumber : PySem.W.kitOne K (.ref E_NoBank) (.ref E_BadNumber) = some false
  kt_NoBank_BadAmount : PySem.W.kitOne K (.ref E_NoBank) (.ref E_BadAmount) = some false
  kt_NoBank_BadCode : PySem.W.kitOne K (.ref E_NoBank) (.ref E_BadCode) = some false
  kt_NoBank_Short : PySem.W.kitOne K (.ref E_NoBank) (.ref E_Short) = some false
  kt_NoBank_Down : PySem.W.kitOne K (.ref E_NoBank) (.ref E_Down) = some false
  kt_NoBank_Up : PySem.W.kitOne K (.ref E_NoBank) (.ref E_Up) = some false
  kt_NoBank_NoMeter : PySem.W.kitOne K (.ref E_NoBank) (.ref E_NoMeter) = some false
  kt_BadNumber_NoBank : PySem.W.kitOne K (.ref E_BadNumber) (.ref E_NoBank) = some false
  kt_BadNumber_BadNumber : PySem.W.kitOne K (.ref E_BadNumber) (.ref E_BadNumber) = some true
  kt_BadNumber_BadAmount : PySem.W.kitOne K (.ref E_BadNumber) (.ref E_BadAmount) = some false
  kt_BadNumber_BadCode : PySem.W.kitOne K (.ref E_BadNumber) (.ref E_BadCode) = some false
  kt_BadNumber_Short : PySem.W.kitOne K (.ref E_BadNumber) (.ref E_Short) = some false
  kt_BadNumber_Down : PySem.W.kitOne K (.ref E_BadNumber) (.ref E_Down) = some false
  kt_BadNumber_Up : PySem.W.kitOne K (.ref E_BadNumber) (.ref E_Up) = some false
  kt_BadNumber_NoMeter : PySem.W.kitOne K (.ref E_BadNumber) (.ref E_NoMeter) = some false
  kt_BadAmount_NoBank : PySem.W.kitOne K (.ref E_BadAmount) (.ref E_NoBank) = some false
  kt_BadAmount_BadNumber : PySem.W.kitOne K (.ref E_BadAmount) (.ref E_BadNumber) = some false
  kt_BadAmount_BadAmount : PySem.W.kitOne K (.ref E_BadAmount) (.ref E_BadAmount) = some true
  kt_BadAmount_BadCode : PySem.W.kitOne K (.ref E_BadAmount) (.ref E_BadCode) = some false
  kt_BadAmount_Short : PySem.W.kitOne K (.ref E_BadAmount) (.ref E_Short) = some false
  kt_BadAmount_Down : PySem.W.kitOne K (.ref E_BadAmount) (.ref E_Down) = some false
  kt_BadAmount_Up : PySem.W.kitOne K (.ref E_BadAmount) (.ref E_Up) = some false
  kt_BadAmount_NoMeter : PySem.W.kitOne K (.ref E_BadAmount) (.ref E_NoMeter) = some false
  kt_BadCode_NoBank : PySem.W.kitOne K (.ref E_BadCode) (.ref E_NoBank) = some false
  kt_BadCode_BadNumber : PySem.W.kitOne K (.ref E_BadCode) (.ref E_BadNumber) = some false
  kt_BadCode_BadAmount : PySem.W.kitOne K (.ref E_BadCode) (.ref E_BadAmount) = some false
  kt_BadCode_BadCode : PySem.W.kitOne K (.ref E_BadCode) (.ref E_BadCode) = some true
  kt_BadCode_Short : PySem.W.kitOne K (.ref E_BadCode) (.ref E_Short) = some false
  kt_BadCode_Down : PySem.W.kitOne K (.ref E_BadCode) (.ref E_Down) = some false
  kt_BadCode_Up : PySem.W.kitOne K (.ref E_BadCode) (.ref E_Up) = some false
  kt_BadCode_NoMeter : PySem.W.kitOne K (.ref E_BadCode) (.ref E_NoMeter) = some false
  kt_Short_NoBank : PySem.W.kitOne K (.ref E_Short) (.ref E_NoBank) = some false
  kt_Short_BadNumber : PySem.W.kitOne K (.ref E_Short) (.ref E_BadNumber) = some false
  kt_Short_BadAmount : PySem.W.kitOne K (.ref E_Short) (.ref E_BadAmount) = some false
  kt_Short_BadCode : PySem.W.kitOne K (.ref E_Short) (.ref E_BadCode) = some false
  kt_Short_Short : PySem.W.kitOne K (.ref E_Short) (.ref E_Short) = some true
  kt_Short_Down : PySem.W.kitOne K (.ref E_Short) (.ref E_Down) = some false
  kt_Short_Up : PySem.W.kitOne K (.ref E_Short) (.ref E_Up) = some false
  kt_Short_NoMeter : PySem.W.kitOne K (.ref E_Short) (.ref E_NoMeter) = some false
  kt_Down_NoBank : PySem.W.kitOne K (.ref E_Down) (.ref E_NoBank) = some false
  kt_Down_BadNumber : PySem.W.kitOne K (.ref E_Down) (.ref E_BadNumber) = some false
  kt_Down_BadAmount : PySem.W.kitOne K (.ref E_Down) (.ref E_BadAmount) = some false
  kt_Down_BadCode : PySem.W.kitOne K (.ref E_Down) (.ref E_BadCode) = some false
  kt_Down_Short : PySem.W.kitOne K (.ref E_Down) (.ref E_Short) = some false
  kt_Down_Down : PySem.W.kitOne K (.ref E_Down) (.ref E_Down) = some true
  kt_Down_Up : PySem.W.kitOne K (.ref E_Down) (.ref E_Up) = some false
  kt_Down_NoMeter : PySem.W.kitOne K (.ref E_Down) (.ref E_NoMeter) = some false
  kt_Up_NoBank : PySem.W.kitOne K (.ref E_Up) (.ref E_NoBank) = some false
  kt_Up_BadNumber : PySem.W.kitOne K (.ref E_Up) (.ref E_BadNumber) = some false
  kt_Up_BadAmount : PySem.W.kitOne K (.ref E_Up) (.ref E_BadAmount) = some false
  kt_Up_BadCode : PySem.W.kitOne K (.ref E_Up) (.ref E_BadCode) = some false
  kt_Up_Short : PySem.W.kitOne K (.ref E_Up) (.ref E_Short) = some false
  kt_Up_Down : PySem.W.kitOne K (.ref E_Up) (.ref E_Down) = some false
  kt_Up_Up : PySem.W.kitOne K (.ref E_Up) (.ref E_Up) = some true
  kt_Up_NoMeter : PySem.W.kitOne K (.ref E_Up) (.ref E_NoMeter) = some false
  kt_NoMeter_NoBank : PySem.W.kitOne K (.ref E_NoMeter) (.ref E_NoBank) = some false
  kt_NoMeter_BadNumber : PySem.W.kitOne K (.ref E_NoMeter) (.ref E_BadNumber) = some false
  kt_NoMeter_BadAmount : PySem.W.kitOne K (.ref E_NoMeter) (.ref E_BadAmount) = some false
  kt_NoMeter_BadCode : PySem.W.kitOne K (.ref E_NoMeter) (.ref E_BadCode) = some false
  kt_NoMeter_Short : PySem.W.kitOne K (.ref E_NoMeter) (.ref E_Short) = some false
  kt_NoMeter_Down : PySem.W.kitOne K (.ref E_NoMeter) (.ref E_Down) = some false
  kt_NoMeter_Up : PySem.W.kitOne K (.ref E_NoMeter) (.ref E_Up) = some false
  kt_NoMeter_NoMeter : PySem.W.kitOne K (.ref E_NoMeter) (.ref E_NoMeter) = some true
  C_Meter : Addr
  cls_Meter : Cls K C_Meter
  g_Meter : mg "Meter" = some (.ref C_Meter)
  mk_Meter_ : PySem.W.makesIn K C_Meter = true
  kc_Meter : PySem.W.keepIn K (.ref C_Meter) = true
  na_Meter_own : NoAttr K C_Meter "own"
  na_Meter_key : NoAttr K C_Meter "key"
  na_Meter_memory : NoAttr K C_Meter "memory"
  na_Meter_prints : NoAttr K C_Meter "prints"
  na_Meter_awake : NoAttr K C_Meter "awake"
  C_House : Addr
  cls_House : Cls K C_House
  g_House : mg "House" = some (.ref C_House)
  mk_House_ : PySem.W.makesIn K C_House = true
  kc_House : PySem.W.keepIn K (.ref C_House) = true
  na_House_key : NoAttr K C_House "key"
  na_House_money : NoAttr K C_House "money"
  na_House_spent : NoAttr K C_House "spent"
  na_House_issues : NoAttr K C_House "issues"
  na_House_taken : NoAttr K C_House "taken"
  f_at_first : FnF K mg "at_first" s_at_first []
  f_standing : FnF K mg "standing" s_standing ["cells"]
  f_bank_of : FnF K mg "bank_of" s_bank_of ["cells"]
  f_need_key : FnF K mg "need_key" s_need_key ["key"]
  f_need_number : FnF K mg "need_number" s_need_number ["number"]
  m_Meter___init__ : MeF K C_Meter "__init__" "Meter.__init__" s_Meter___init__ ["self", "number", "key"]
  m_Meter_number : MeF K C_Meter "number" "Meter.number" s_Meter_number ["self"]
  f_recovered : FnF K mg "recovered" s_recovered ["number", "key", "cells", "stamps"]
  m_House___init__ : MeF K C_House "__init__" "House.__init__" s_House___init__ ["self", "key", "meters"]
  f__law_start : FnF K mg "_law_start" s__law_start ["_law_script"]
  f__law_drawn : FnF K mg "_law_drawn" s__law_drawn ["_law_state", "_law_many"]
  f__law_same : FnF K mg "_law_same" s__law_same ["_law_found", "_law_due"]
  f__law_kind : FnF K mg "_law_kind" s__law_kind ["_law_work"]
  f__law_far : FnF K mg "_law_far" s__law_far ["_law_state", "_law_most"]
  f__law_cells : FnF K mg "_law_cells" s__law_cells ["_law_state"]
  f_law : FcF K mg "law" s_law ["_law_script"]
end Fk

set_option maxHeartbeats 4000000
namespace Fk
open PySem PySem.Spec PyProof.Rows L2
local macro_rules | `(tactic| wtm_at "ln") => `(tactic| first
  | omega
  | (simp only [List.length_cons, List.length_nil, List.length_map, List.length_append, List.length_replicate, List.length_take, List.length_drop, List.length_set]; omega)
  | (with_unfolding_all exact (by decide)))
local macro_rules | `(tactic| wtm_at "ar") => `(tactic| first
  | ((with_reducible show CMulW _ _); (refine' mulS ?_ ?_ <;> omega))
  | ((with_reducible show CDivW _ _); (refine' divS ?_ ?_ <;> omega))
  | ((with_reducible show CPow _ _); exact ⟨by decide, by decide, by decide⟩)
  | (show (0 : Int) < _; omega)
  | (with_unfolding_all exact (by decide)))
local macro_rules | `(tactic| wtm_at "at") => `(tactic| first
  | assumption
  | (refine' cl_atE ?e80 ?h80; (case' e80 => first | exact rfl | assumption); (case' h80 => wtm_at "ln"))
  | exact rfl)
local macro_rules | `(tactic| wtm_at "fr") => `(tactic| first
  | assumption
  | ((with_reducible refine' Mx.free0 ?m99 ?h99); (case' h99 => assumption); (case' m99 => wtm_at "mo")))
local macro_rules | `(tactic| wtm_at "hp") => `(tactic| first
  | assumption
  | ((with_reducible refine' Mx.get0 ?m1 ?h1); (case' m1 => assumption); (case' h1 => wtm_at "hp"))
  | ((with_reducible refine' Mx.get ?m2 ?n2 ?h2); (case' m2 => assumption); (case' n2 => wtm_at "nin"); (case' h2 => wtm_at "hp")))
local macro_rules | `(tactic| wtm_at "sl") => `(tactic| first
  | assumption
  | ((with_reducible refine' Mx.sqL0 ?m96 ?h96); (case' h96 => assumption); (case' m96 => wtm_at "mo"))
  | (refine' SqL.of ?h3; (case' h3 => wtm_at "hp"))
  | ((with_reducible refine' Mx.sqL0 ?m4 ?h4); (case' m4 => assumption); (case' h4 => wtm_at "sl"))
  | ((with_reducible refine' Mx.sqL ?m5 ?n5 ?h5); (case' m5 => assumption); (case' n5 => wtm_at "nin"); (case' h5 => wtm_at "sl")))
local macro_rules | `(tactic| wtm_at "st") => `(tactic| first
  | assumption
  | ((with_reducible refine' Mx.sqT0 ?m97 ?h97); (case' h97 => assumption); (case' m97 => wtm_at "mo"))
  | (refine' SqT.of ?h6; (case' h6 => wtm_at "hp"))
  | ((with_reducible refine' Mx.sqT0 ?m7 ?h7); (case' m7 => assumption); (case' h7 => wtm_at "st"))
  | ((with_reducible refine' Mx.sqT ?m8 ?n8 ?h8); (case' m8 => assumption); (case' n8 => wtm_at "nin"); (case' h8 => wtm_at "st")))
local macro_rules | `(tactic| wtm_at "mx") => `(tactic| first
  | assumption
  | exact Mx.refl
  | ((with_reducible refine' Mx.of0 ?h9); (case' h9 => assumption))
  | ((with_reducible refine' Mx.trans ?h10 ?m10); (case' m10 => first | assumption | ((with_reducible refine' Mx.of0 ?q10); (case' q10 => assumption))); (case' h10 => wtm_at "mx")))
local macro_rules | `(tactic| wtm_at "mo") => `(tactic| first
  | wtm_at "mx"
  | ((with_reducible refine' Mx.own ?m90 ?f90 ?k90); (case' k90 => assumption); (case' f90 => wtm_at "fr"); (case' m90 => wtm_at "mo"))
  | ((with_reducible refine' Mx.trans ?h91 ?m91); (case' m91 => first | assumption | ((with_reducible refine' Mx.of0 ?q91); (case' q91 => assumption))); (case' h91 => wtm_at "mo")))
local macro_rules | `(tactic| wtm_at "ne") => `(tactic| first
  | assumption
  | exact Ne.symm (by assumption)
  | ((with_reducible refine' ne_of_none ?x94 ?y94); (case' y94 => assumption); (case' x94 => wtm_at "hp"))
  | ((with_reducible refine' Ne.symm (ne_of_none ?x95 ?y95)); (case' y95 => assumption); (case' x95 => wtm_at "hp")))
local macro_rules | `(tactic| wtm_at "nin") => `(tactic| first
  | assumption
  | exact List.not_mem_nil
  | ((with_reducible refine' List.not_mem_cons_of_ne_of_not_mem ?h98 ?t98); (case' h98 => wtm_at "ne"); (case' t98 => wtm_at "nin")))
local macro_rules | `(tactic| wtm_at "g1") => `(tactic| first
  | ((with_reducible refine' g_var ?h11 ?k11); (case' h11 => exact rfl))
  | with_reducible refine' g_c ?_
  | with_reducible refine' g_op ?_
  | with_reducible refine' g_I0 ?_
  | ((with_reducible refine' g_I ?c12 ?k12); (case' c12 => wtm_at "ar"))
  | with_reducible refine' g_cons ?_
  | with_reducible refine' g_nil ?_
  | with_reducible refine' g_seq ?_
  | with_reducible refine' g_asg ?_
  | with_reducible refine' g_name ?_
  | with_reducible refine' g_ret ?_
  | with_reducible refine' g_if ?_
  | with_reducible refine' g_test ?_
  | with_reducible refine' g_tB ?_
  | with_reducible refine' g_bl ?_
  | ((with_reducible refine' g_eq ?h13 ?k13); (case' h13 => exact rfl))
  | ((with_reducible refine' g_ne ?h14 ?k14); (case' h14 => exact rfl))
  | with_reducible refine' g_CB ?_
  | with_reducible refine' g_call ?_
  | with_reducible refine' g_drop ?_
  | with_reducible refine' g_next ?_
  | with_reducible refine' g_not ?_
  | with_reducible refine' g_and ?_
  | with_reducible refine' g_or ?_
  | with_reducible refine' g_un ?_
  | with_reducible refine' g_U ?_
  | with_reducible refine' g_tup ?_
  | with_reducible refine' g_lst ?_
  | ((with_reducible refine' g_kNew ?h15 ?k15); (case' h15 => wtm_at "ln"); (case' k15 => intro _ _ _ _ _))
  | ((with_reducible refine' g_ixL ?h16 ?a16 ?k16); (case' h16 => wtm_at "sl"); (case' a16 => wtm_at "at"))
  | ((with_reducible refine' g_ixT ?h17 ?a17 ?k17); (case' h17 => wtm_at "st"); (case' a17 => wtm_at "at"))
  | with_reducible refine' g_slice ?_
  | with_reducible refine' g_part ?_
  | with_reducible refine' g_kPart ?_
  | with_reducible refine' g_noPart ?_
  | ((with_reducible refine' g_slL ?h18 ?k18); (case' h18 => wtm_at "sl"); (case' k18 => intro _ _ _ _ _))
  | ((with_reducible refine' g_cat ?h119 ?h219 ?l19 ?k19); (case' h119 => wtm_at "hp"); (case' h219 => wtm_at "hp"); (case' l19 => wtm_at "ln"); (case' k19 => intro _ _ _ _ _))
  | ((with_reducible refine' g_rep ?h120 ?h220 ?h320 ?l20 ?k20); (case' h120 => wtm_at "hp"); (case' h220 => wtm_at "ln"); (case' h320 => wtm_at "ln"); (case' l20 => wtm_at "ln"); (case' k20 => intro _ _ _ _ _))
  | ((with_reducible refine' g_append ?h21 ?l21 ?k21); (case' h21 => wtm_at "hp"); (case' l21 => wtm_at "ln"); (case' k21 => intro _ _ _))
  | ((with_reducible refine' g_kBM ?h22 ?k22); (case' h22 => wtm_at "sl"))
  | ((with_reducible refine' g_kBM0 ?h23 ?k23); (case' h23 => wtm_at "sl"))
  | ((with_reducible refine' g_kL ?h24 ?k24); (case' h24 => wtm_at "sl"))
  | ((with_reducible refine' g_kR1 ?h125 ?h225 ?k25); (case' h125 => wtm_at "ln"); (case' h225 => wtm_at "ln"))
  | ((with_reducible refine' g_kR2 ?h126 ?h226 ?h326 ?h426 ?k26); (case' h126 => wtm_at "ln"); (case' h226 => wtm_at "ln"); (case' h326 => wtm_at "ln"); (case' h426 => wtm_at "ln"))
  | ((with_reducible refine' g_lenL ?h27 ?k27); (case' h27 => wtm_at "sl"))
  | ((with_reducible refine' g_lenT ?h28 ?k28); (case' h28 => wtm_at "st"))
  | ((with_reducible refine' g_listL ?h29 ?k29); (case' h29 => wtm_at "sl"); (case' k29 => intro _ _ _ _ _))
  | ((with_reducible refine' g_tupleL ?h30 ?k30); (case' h30 => wtm_at "sl"); (case' k30 => intro _ _ _ _ _))
  | with_reducible refine' g_max ?_
  | with_reducible refine' g_min ?_
  | with_reducible refine' g_intB ?_
  | with_reducible refine' g_fld ?_
  | with_reducible refine' g_put ?_
  | with_reducible refine' g_dget ?_
  | with_reducible refine' g_isN ?_
  | with_reducible refine' g_notN ?_
  | with_reducible refine' g_ifE ?_
  | with_reducible refine' g_andV ?_
  | with_reducible refine' g_orV ?_
  | with_reducible refine' g_notV ?_
  | with_reducible refine' g_kIf ?_
  | with_reducible refine' g_chain ?_
  | with_reducible refine' g_kCh ?_
  | with_reducible refine' g_sub ?_
  | ((with_reducible refine' g_setI ?h92 ?e92 ?j92 ?k92); (case' h92 => wtm_at "hp"); (case' e92 => first | exact rfl | assumption); (case' j92 => wtm_at "ln"); (case' k92 => intro _ _ _))
  | ((with_reducible refine' g_setL ?h89 ?i89 ?k89); (case' h89 => wtm_at "hp"); (case' i89 => exact ixE rfl (by wtm_at "ln")); (case' k89 => intro _ _ _))
  | ((with_reducible refine' g_gtup ?h93 ?e93 ?k93); (case' h93 => wtm_at "st"); (case' e93 => exact rfl))
  | with_reducible refine' g_gcons ?_
  | with_reducible refine' g_gnil ?_
  | with_reducible refine' g_par ?_
  | with_reducible refine' g_kPar ?_
  | with_reducible refine' g_meth ?_
  | with_reducible refine' g_bm ?_
  | with_reducible refine' g_bm0 ?_
  | with_reducible refine' g_raise ?_
  | with_reducible refine' g_for ?_
  | with_reducible refine' g_iR1 ?_
  | with_reducible refine' g_iR2 ?_
  | with_reducible refine' g_iL ?_
  | with_reducible refine' g_lc ?_
  | with_reducible refine' g_retN ?_
  | with_reducible refine' g_no (b := false) rfl ?_
  | with_reducible refine' g_yes (b := true) rfl ?_)
local macro_rules | `(tactic| wtm_at "go") => `(tactic| repeat (wtm_at "g1"))
local macro_rules | `(tactic| wtm_at "gs") => `(tactic| repeat ((fail_if_success (with_reducible refine' g_ifE ?_)); wtm_at "g1"))
local macro_rules | `(tactic| wtm_at "gi") => `(tactic| repeat ((fail_if_success (with_reducible refine' g_if ?_)); wtm_at "g1"))
local macro_rules | `(tactic| wtm_at "gr") => `(tactic| repeat ((fail_if_success (with_reducible refine' g_ret ?_)); wtm_at "g1"))
local macro_rules | `(tactic| wtm_at "gq") => `(tactic| repeat ((fail_if_success (with_reducible refine' g_asg ?_)); wtm_at "g1"))
/-! ### banks -/
/-- which bank stands, where one does -/
def stand (cs : List Int) : Nat := if cl cs 0 = 1 ∧ ¬ (cl cs 10 = 1 ∧ cl cs 1 < cl cs 11) then 0 else 1
def Any (cs : List Int) : Prop := cs.length = 20 ∧ (cl cs 0 = 1 ∨ cl cs 10 = 1)
def bank (cs : List Int) : List Int := (cs.drop (stand cs * 10)).take 10
section
variable {P : Program} {w : World} {K : PySem.W.Frag} {mg : Str → Option Value} {base : Heap}
def spAtFirst : Sp := fun vs H Q _ => vs = [] ∧ ∀ p H', H p = none → Mx [] H H' → H' p = some (.lst (((1 : Int) :: List.replicate 19 0).map V.int)) → Q (.ref p) H'
theorem c_at_first (T : Tx K mg) : Cl P w K mg base 1 "at_first" spAtFirst [] := by
  refine T.f_at_first.cl sc_at_first (fun vs H Q E h => ?_) (fun cdv A outer s H vs Q E hr h => ?_)
  · obtain ⟨rfl, _⟩ := h
    rfl
  · obtain ⟨rfl, k⟩ := h
    refine ⟨_, (pss_one (ps_ret (pe_op op_cat (pe_lst (pa_cons pe_int pa_nil)) (pe_op op_rep (pe_lst (pa_cons pe_int pa_nil)) (pe_op op_sub (pe_op op_mulW pe_int (q_const T.g_WIDE rfl)) pe_int))))), ?_⟩
    wtm_at "go"
    exact k _ _ (by wtm_at "fr") (by wtm_at "mx") (by assumption)
/-- standing -/
def spStanding (T : Tx K mg) : Sp := fun vs H Q E => ∃ (a : Addr) (cs : List Int), vs = [.ref a] ∧ SqL K H a (cs.map V.int) ∧ cs.length ≤ 100000 ∧
  (Any cs → ∀ H', Mx [] H H' → Q (.int (stand cs)) H') ∧ (¬ Any cs → ∀ H', Mx [] H H' → E (.ref T.E_NoBank) none H')
theorem c_standing (T : Tx K mg) : Cl P w K mg base 1 "standing" (spStanding T) [] := by
  refine T.f_standing.cl sc_standing (fun vs H Q E h => ?_) (fun cdv A outer s H vs Q E hr h => ?_)
  · obtain ⟨a, cs, rfl, _⟩ := h
    rfl
  · obtain ⟨a, cs, rfl, hS, hl, k1, k2⟩ := h
    refine ⟨_, (pss_cons (ps_if (pt_cmpR op_ne (pe_callB (cLen K) (by rfl) T.n_len (by decide +kernel) (pa_cons (pv 0) pa_nil)) (pe_op op_mulW pe_int (q_const T.g_WIDE rfl)) (by first | exact nomark _ | rfl)) (pss_one (q_raise rfl (takes_of rfl rfl rfl rfl) T.x_NoBank rfl)) pss_nil)
      (pss_cons (ps_setLc (i := 1) (own := [("bank", 2)]) (g := gName 2) rfl sc_standing.nd rfl rfl (sw_true rfl rfl rfl (by decide +kernel)) (pi_range1 rfl T.n_range (pa_cons pe_int pa_nil)) (blkOk_by (own := [("bank", 2)]) (N := N_standing) (sc := defScope s_standing) (by decide +kernel)) (fun _ _ _ _ _ => pg_name (i := 2) sc_standing.nd rfl (by first | exact Or.inl rfl | exact Or.inr rfl)) (fun _ _ _ _ _ => (pts_one (pt_cmpR op_eq (pe_ix (ixL K) (pv 0) (pe_op op_mulW (pv 2) (q_const T.g_WIDE rfl)) (fun _ _ => rfl)) pe_int (by first | exact nomark _ | rfl)))) (fun _ _ _ _ _ => (pv 2)))
      (pss_cons (ps_if (pt_cmpR (opEqD K hr.units) (pv 1) (pe_lst pa_nil) (by first | exact nomark _ | rfl)) (pss_one (q_raise rfl (takes_of rfl rfl rfl rfl) T.x_NoBank rfl)) pss_nil)
      (pss_cons (ps_if (PW.pt (pw_and (pt_cmpR op_eq (pe_callB (cLen K) (by rfl) T.n_len (by decide +kernel) (pa_cons (pv 1) pa_nil)) pe_int (by first | exact nomark _ | rfl)) (pw_and1 (pt_cmpR op_lt (pe_ix (ixL K) (pv 0) (q_const T.g_TURN rfl) (fun _ _ => rfl)) (pe_ix (ixL K) (pv 0) (pe_op op_add (q_const T.g_WIDE rfl) (q_const T.g_TURN rfl)) (fun _ _ => rfl)) (by first | exact nomark _ | rfl))))) (pss_one (ps_ret pe_int)) pss_nil)
      (pss_one (ps_ret (pe_ix (ixL K) (pv 1) pe_int (fun _ _ => rfl)))))))), ?_⟩
    have W10 : (2 : Int) * 10 = 20 := rfl
    wtm_at "go"
    refine g_ite (fun e => ?_) (fun e => ?_)
    · wtm_at "go"
      refine k2 (fun z => ?_) _ Mx.refl
      have := z.1
      simp at e
      omega
    · have e20 : cs.length = 20 := by
        simp at e
        omega
      wtm_at "go"
      refine g_lcR (fun b => if cl cs (b * 10) = 1 then some (.int b) else none) (by intro x; rfl) (by decide) (fun i H' QN hi m hQ => ?_) (fun Dl H' hD m eD => ?_)
      · have ha : atI (cs.map V.int) ((0 + (i : Int)) * 10) = some (.int (cl cs (i * 10))) := cl_atE (by omega) (by omega)
        wtm_at "go"
        refine g_ite (fun e1 => ?_) (fun e1 => ?_)
        · wtm_at "go"
          refine hQ _ _ Mx.refl ?_
          simp at e1
          simp [e1]
        · refine hQ _ _ Mx.refl ?_
          simp at e1
          simp [e1]
      · have key : ∃ ws : List Int, (List.range (Int.toNat 2)).filterMap (fun b => if cl cs (b * 10) = 1 then some (V.int b) else none) = ws.map V.int ∧
            ((ws = [] ∧ ¬ cl cs 0 = 1 ∧ ¬ cl cs 10 = 1) ∨ (ws = [0] ∧ cl cs 0 = 1 ∧ ¬ cl cs 10 = 1) ∨ (ws = [1] ∧ ¬ cl cs 0 = 1 ∧ cl cs 10 = 1) ∨ (ws = [0, 1] ∧ cl cs 0 = 1 ∧ cl cs 10 = 1)) := by
          have e2 : List.range (Int.toNat 2) = [0, 1] := rfl
          rw [e2]
          by_cases h0 : cl cs 0 = 1 <;> by_cases h1 : cl cs 10 = 1
          · exact ⟨[0, 1], by simp [h0, h1], by simp [h0, h1]⟩
          · exact ⟨[0], by simp [h0, h1], by simp [h0, h1]⟩
          · exact ⟨[1], by simp [h0, h1], by simp [h0, h1]⟩
          · exact ⟨[], by simp [h0, h1], by simp [h0, h1]⟩
        obtain ⟨ws, ew, hw⟩ := key
        rw [ew] at eD
        wtm_at "go"
        refine g_eqI (ys := []) (by wtm_at "sl") (by wtm_at "sl") ?_
        wtm_at "go"
        refine g_ite (fun e1 => ?_) (fun e1 => ?_)
        · wtm_at "go"
          refine k2 (fun z => ?_) _ (by wtm_at "mx")
          simp at e1
          rcases hw with ⟨_, a1, a2⟩ | ⟨q, _⟩ | ⟨q, _⟩ | ⟨q, _⟩
          · exact z.2.elim a1 a2
          all_goals (rw [e1] at q; cases q)
        · simp at e1
          have hAny : Any cs := ⟨e20, by
            rcases hw with ⟨q, _⟩ | ⟨_, a1, _⟩ | ⟨_, _, a1⟩ | ⟨_, a1, _⟩
            · exact absurd q e1
            · exact .inl a1
            · exact .inr a1
            · exact .inl a1⟩
          wtm_at "go"
          refine g_ite (fun e2 => ?_) (fun e2 => ?_)
          · have hw2 : ws = [0, 1] ∧ cl cs 0 = 1 ∧ cl cs 10 = 1 := by
              simp at e2
              rcases hw with ⟨q, _⟩ | ⟨q, _⟩ | ⟨q, _⟩ | q
              · rw [q] at e2; simp at e2
              · rw [q] at e2; simp at e2
              · rw [q] at e2; simp at e2
              · exact q
            wtm_at "go"
            refine g_ite (fun e3 => ?_) (fun e3 => ?_)
            · wtm_at "go"
              have es : stand cs = 1 := by
                simp at e3
                unfold stand
                rw [if_neg]
                intro z
                exact z.2 ⟨hw2.2.2, e3⟩
              rw [es] at k1
              exact k1 hAny _ (by wtm_at "mx")
            · have es : stand cs = 0 := by
                simp at e3
                unfold stand
                rw [if_pos]
                refine ⟨hw2.2.1, fun z => ?_⟩
                omega
              have e4 : ws = [0, 1] := hw2.1
              subst e4
              wtm_at "go"
              rw [es] at k1
              exact k1 hAny _ (by wtm_at "mx")
          · have hw2 : (ws = [0] ∧ stand cs = 0) ∨ (ws = [1] ∧ stand cs = 1) := by
              simp at e2
              rcases hw with ⟨q, _⟩ | ⟨q, a1, a2⟩ | ⟨q, a1, a2⟩ | ⟨q, _⟩
              · exact absurd q e1
              · exact .inl ⟨q, by unfold stand; rw [if_pos ⟨a1, fun z => a2 z.1⟩]⟩
              · exact .inr ⟨q, by unfold stand; rw [if_neg fun z => a1 z.1]⟩
              · rw [q] at e2; simp at e2
            rcases hw2 with ⟨rfl, es⟩ | ⟨rfl, es⟩
            · wtm_at "go"
              rw [es] at k1
              exact k1 hAny _ (by wtm_at "mx")
            · wtm_at "go"
              rw [es] at k1
              exact k1 hAny _ (by wtm_at "mx")
end
end Fk
namespace Fk
open PySem PySem.Spec PyProof.Rows L2
local macro_rules | `(tactic| wtm_at "ln") => `(tactic| first
  | omega
  | (simp only [List.length_cons, List.length_nil, List.length_map, List.length_append, List.length_replicate, List.length_take, List.length_drop, List.length_set]; omega)
  | (with_unfolding_all exact (by decide)))
local macro_rules | `(tactic| wtm_at "ar") => `(tactic| first
  | ((with_reducible show CMulW _ _); (refine' mulS ?_ ?_ <;> omega))
  | ((with_reducible show CDivW _ _); (refine' divS ?_ ?_ <;> omega))
  | ((with_reducible show CPow _ _); exact ⟨by decide, by decide, by decide⟩)
  | (show (0 : Int) < _; omega)
  | (with_unfolding_all exact (by decide)))
local macro_rules | `(tactic| wtm_at "at") => `(tactic| first
  | assumption
  | (refine' cl_atE ?e80 ?h80; (case' e80 => first | exact rfl | assumption); (case' h80 => wtm_at "ln"))
  | exact rfl)
local macro_rules | `(tactic| wtm_at "fr") => `(tactic| first
  | assumption
  | ((with_reducible refine' Mx.free0 ?m99 ?h99); (case' h99 => assumption); (case' m99 => wtm_at "mo")))
local macro_rules | `(tactic| wtm_at "hp") => `(tactic| first
  | assumption
  | ((with_reducible refine' Mx.get0 ?m1 ?h1); (case' m1 => assumption); (case' h1 => wtm_at "hp"))
  | ((with_reducible refine' Mx.get ?m2 ?n2 ?h2); (case' m2 => assumption); (case' n2 => wtm_at "nin"); (case' h2 => wtm_at "hp")))
local macro_rules | `(tactic| wtm_at "sl") => `(tactic| first
  | assumption
  | ((with_reducible refine' Mx.sqL0 ?m96 ?h96); (case' h96 => assumption); (case' m96 => wtm_at "mo"))
  | (refine' SqL.of ?h3; (case' h3 => wtm_at "hp"))
  | ((with_reducible refine' Mx.sqL0 ?m4 ?h4); (case' m4 => assumption); (case' h4 => wtm_at "sl"))
  | ((with_reducible refine' Mx.sqL ?m5 ?n5 ?h5); (case' m5 => assumption); (case' n5 => wtm_at "nin"); (case' h5 => wtm_at "sl")))
local macro_rules | `(tactic| wtm_at "st") => `(tactic| first
  | assumption
  | ((with_reducible refine' Mx.sqT0 ?m97 ?h97); (case' h97 => assumption); (case' m97 => wtm_at "mo"))
  | (refine' SqT.of ?h6; (case' h6 => wtm_at "hp"))
  | ((with_reducible refine' Mx.sqT0 ?m7 ?h7); (case' m7 => assumption); (case' h7 => wtm_at "st"))
  | ((with_reducible refine' Mx.sqT ?m8 ?n8 ?h8); (case' m8 => assumption); (case' n8 => wtm_at "nin"); (case' h8 => wtm_at "st")))
local macro_rules | `(tactic| wtm_at "mx") => `(tactic| first
  | assumption
  | exact Mx.refl
  | ((with_reducible refine' Mx.of0 ?h9); (case' h9 => assumption))
  | ((with_reducible refine' Mx.trans ?h10 ?m10); (case' m10 => first | assumption | ((with_reducible refine' Mx.of0 ?q10); (case' q10 => assumption))); (case' h10 => wtm_at "mx")))
local macro_rules | `(tactic| wtm_at "mo") => `(tactic| first
  | wtm_at "mx"
  | ((with_reducible refine' Mx.own ?m90 ?f90 ?k90); (case' k90 => assumption); (case' f90 => wtm_at "fr"); (case' m90 => wtm_at "mo"))
  | ((with_reducible refine' Mx.trans ?h91 ?m91); (case' m91 => first | assumption | ((with_reducible refine' Mx.of0 ?q91); (case' q91 => assumption))); (case' h91 => wtm_at "mo")))
local macro_rules | `(tactic| wtm_at "ne") => `(tactic| first
  | assumption
  | exact Ne.symm (by assumption)
  | ((with_reducible refine' ne_of_none ?x94 ?y94); (case' y94 => assumption); (case' x94 => wtm_at "hp"))
  | ((with_reducible refine' Ne.symm (ne_of_none ?x95 ?y95)); (case' y95 => assumption); (case' x95 => wtm_at "hp")))
local macro_rules | `(tactic| wtm_at "nin") => `(tactic| first
  | assumption
  | exact List.not_mem_nil
  | ((with_reducible refine' List.not_mem_cons_of_ne_of_not_mem ?h98 ?t98); (case' h98 => wtm_at "ne"); (case' t98 => wtm_at "nin")))
local macro_rules | `(tactic| wtm_at "g1") => `(tactic| first
  | ((with_reducible refine' g_var ?h11 ?k11); (case' h11 => exact rfl))
  | with_reducible refine' g_c ?_
  | with_reducible refine' g_op ?_
  | with_reducible refine' g_I0 ?_
  | ((with_reducible refine' g_I ?c12 ?k12); (case' c12 => wtm_at "ar"))
  | with_reducible refine' g_cons ?_
  | with_reducible refine' g_nil ?_
  | with_reducible refine' g_seq ?_
  | with_reducible refine' g_asg ?_
  | with_reducible refine' g_name ?_
  | with_reducible refine' g_ret ?_
  | with_reducible refine' g_if ?_
  | with_reducible refine' g_test ?_
  | with_reducible refine' g_tB ?_
  | with_reducible refine' g_bl ?_
  | ((with_reducible refine' g_eq ?h13 ?k13); (case' h13 => exact rfl))
  | ((with_reducible refine' g_ne ?h14 ?k14); (case' h14 => exact rfl))
  | with_reducible refine' g_CB ?_
  | with_reducible refine' g_call ?_
  | with_reducible refine' g_drop ?_
  | with_reducible refine' g_next ?_
  | with_reducible refine' g_not ?_
  | with_reducible refine' g_and ?_
  | with_reducible refine' g_or ?_
  | with_reducible refine' g_un ?_
  | with_reducible refine' g_U ?_
  | with_reducible refine' g_tup ?_
  | with_reducible refine' g_lst ?_
  | ((with_reducible refine' g_kNew ?h15 ?k15); (case' h15 => wtm_at "ln"); (case' k15 => intro _ _ _ _ _))
  | ((with_reducible refine' g_ixL ?h16 ?a16 ?k16); (case' h16 => wtm_at "sl"); (case' a16 => wtm_at "at"))
  | ((with_reducible refine' g_ixT ?h17 ?a17 ?k17); (case' h17 => wtm_at "st"); (case' a17 => wtm_at "at"))
  | with_reducible refine' g_slice ?_
  | with_reducible refine' g_part ?_
  | with_reducible refine' g_kPart ?_
  | with_reducible refine' g_noPart ?_
  | ((with_reducible refine' g_slL ?h18 ?k18); (case' h18 => wtm_at "sl"); (case' k18 => intro _ _ _ _ _))
  | ((with_reducible refine' g_cat ?h119 ?h219 ?l19 ?k19); (case' h119 => wtm_at "hp"); (case' h219 => wtm_at "hp"); (case' l19 => wtm_at "ln"); (case' k19 => intro _ _ _ _ _))
  | ((with_reducible refine' g_rep ?h120 ?h220 ?h320 ?l20 ?k20); (case' h120 => wtm_at "hp"); (case' h220 => wtm_at "ln"); (case' h320 => wtm_at "ln"); (case' l20 => wtm_at "ln"); (case' k20 => intro _ _ _ _ _))
  | ((with_reducible refine' g_append ?h21 ?l21 ?k21); (case' h21 => wtm_at "hp"); (case' l21 => wtm_at "ln"); (case' k21 => intro _ _ _))
  | ((with_reducible refine' g_kBM ?h22 ?k22); (case' h22 => wtm_at "sl"))
  | ((with_reducible refine' g_kBM0 ?h23 ?k23); (case' h23 => wtm_at "sl"))
  | ((with_reducible refine' g_kL ?h24 ?k24); (case' h24 => wtm_at "sl"))
  | ((with_reducible refine' g_kR1 ?h125 ?h225 ?k25); (case' h125 => wtm_at "ln"); (case' h225 => wtm_at "ln"))
  | ((with_reducible refine' g_kR2 ?h126 ?h226 ?h326 ?h426 ?k26); (case' h126 => wtm_at "ln"); (case' h226 => wtm_at "ln"); (case' h326 => wtm_at "ln"); (case' h426 => wtm_at "ln"))
  | ((with_reducible refine' g_lenL ?h27 ?k27); (case' h27 => wtm_at "sl"))
  | ((with_reducible refine' g_lenT ?h28 ?k28); (case' h28 => wtm_at "st"))
  | ((with_reducible refine' g_listL ?h29 ?k29); (case' h29 => wtm_at "sl"); (case' k29 => intro _ _ _ _ _))
  | ((with_reducible refine' g_tupleL ?h30 ?k30); (case' h30 => wtm_at "sl"); (case' k30 => intro _ _ _ _ _))
  | with_reducible refine' g_max ?_
  | with_reducible refine' g_min ?_
  | with_reducible refine' g_intB ?_
  | with_reducible refine' g_fld ?_
  | with_reducible refine' g_put ?_
  | with_reducible refine' g_dget ?_
  | with_reducible refine' g_isN ?_
  | with_reducible refine' g_notN ?_
  | with_reducible refine' g_ifE ?_
  | with_reducible refine' g_andV ?_
  | with_reducible refine' g_orV ?_
  | with_reducible refine' g_notV ?_
  | with_reducible refine' g_kIf ?_
  | with_reducible refine' g_chain ?_
  | with_reducible refine' g_kCh ?_
  | with_reducible refine' g_sub ?_
  | ((with_reducible refine' g_setI ?h92 ?e92 ?j92 ?k92); (case' h92 => wtm_at "hp"); (case' e92 => first | exact rfl | assumption); (case' j92 => wtm_at "ln"); (case' k92 => intro _ _ _))
  | ((with_reducible refine' g_setL ?h89 ?i89 ?k89); (case' h89 => wtm_at "hp"); (case' i89 => exact ixE rfl (by wtm_at "ln")); (case' k89 => intro _ _ _))
  | ((with_reducible refine' g_gtup ?h93 ?e93 ?k93); (case' h93 => wtm_at "st"); (case' e93 => exact rfl))
  | with_reducible refine' g_gcons ?_
  | with_reducible refine' g_gnil ?_
  | with_reducible refine' g_par ?_
  | with_reducible refine' g_kPar ?_
  | with_reducible refine' g_meth ?_
  | with_reducible refine' g_bm ?_
  | with_reducible refine' g_bm0 ?_
  | with_reducible refine' g_raise ?_
  | with_reducible refine' g_for ?_
  | with_reducible refine' g_iR1 ?_
  | with_reducible refine' g_iR2 ?_
  | with_reducible refine' g_iL ?_
  | with_reducible refine' g_lc ?_
  | with_reducible refine' g_retN ?_
  | with_reducible refine' g_no (b := false) rfl ?_
  | with_reducible refine' g_yes (b := true) rfl ?_)
local macro_rules | `(tactic| wtm_at "go") => `(tactic| repeat (wtm_at "g1"))
local macro_rules | `(tactic| wtm_at "gs") => `(tactic| repeat ((fail_if_success (with_reducible refine' g_ifE ?_)); wtm_at "g1"))
local macro_rules | `(tactic| wtm_at "gi") => `(tactic| repeat ((fail_if_success (with_reducible refine' g_if ?_)); wtm_at "g1"))
local macro_rules | `(tactic| wtm_at "gr") => `(tactic| repeat ((fail_if_success (with_reducible refine' g_ret ?_)); wtm_at "g1"))
local macro_rules | `(tactic| wtm_at "gq") => `(tactic| repeat ((fail_if_success (with_reducible refine' g_asg ?_)); wtm_at "g1"))
theorem stand_le (cs : List Int) : stand cs ≤ 1 := by unfold stand; split <;> omega
theorem bank_len {cs : List Int} (h : cs.length = 20) : (bank cs).length = 10 := by
  have := stand_le cs
  unfold bank
  rw [List.length_take, List.length_drop]
  omega
theorem cut_bank {cs : List Int} (h : cs.length = 20) : cutV (cs.map V.int) (some ((stand cs : Int) * 10)) (some (((stand cs : Int) + 1) * 10)) = (bank cs).map V.int := by
  have hs := stand_le cs
  have e1 : ((stand cs : Int) * 10) = ((stand cs * 10 : Nat) : Int) := by omega
  have e2 : (((stand cs : Int) + 1) * 10) = (((stand cs + 1) * 10 : Nat) : Int) := by omega
  rw [e1, e2]
  unfold cutV bank
  rw [HT.sIx_nat, HT.sIx_nat, List.length_map, h, List.map_take, List.map_drop]
  congr 1
  · omega
  · congr 1
    omega
/-- the bank to be written, with some numbers changed -/
def news (cs : List Int) (chs : List (Nat × Int)) : List Int := chs.foldl (fun b c => b.set c.1 c.2) ((bank cs).set 1 (cl (bank cs) 1 + 1))
def other (cs : List Int) : Nat := (1 - stand cs) * 10
/-- the steps of writing the other bank -/
def stepsOf (cs : List Int) (chs : List (Nat × Int)) : List (Int × Int) :=
  ((other cs : Int), 0) :: ((List.range 9).map fun (k : Nat) => ((other cs : Int) + (1 + (k : Int)), cl (news cs chs) (k + 1))) ++ [((other cs : Int), 1)]
def chD (c : Nat × Int) : Int × Int := ((c.1 : Int), c.2)
def newsTo (cs : List Int) (chs : List (Nat × Int)) (i : Nat) : List Int := (chs.take i).foldl (fun b c => b.set c.1 c.2) ((bank cs).set 1 (cl (bank cs) 1 + 1))
theorem newsTo_succ {cs : List Int} {chs : List (Nat × Int)} {i : Nat} {c : Nat × Int} (h : chs[i]? = some c) : newsTo cs chs (i + 1) = (newsTo cs chs i).set c.1 c.2 := by
  unfold newsTo
  rw [List.take_add_one, h, List.foldl_append]
  rfl
theorem newsTo_len {cs : List Int} {chs : List (Nat × Int)} {i : Nat} (h : cs.length = 20) : (newsTo cs chs i).length = 10 := by
  have : ∀ (chs : List (Nat × Int)) (b : List Int), (chs.foldl (fun b c => b.set c.1 c.2) b).length = b.length := by
    intro chs
    induction chs with
    | nil => intro b; rfl
    | cons c r ih => intro b; rw [List.foldl_cons, ih, List.length_set]
  unfold newsTo
  rw [this, List.length_set, bank_len h]
theorem stepsOf_at {cs : List Int} {chs : List (Nat × Int)} {i : Nat} (h : i < 9) : (stepsOf cs chs).take (i + 1) ++ [((other cs : Int) + (1 + (i : Int)), cl (news cs chs) (1 + i))] = (stepsOf cs chs).take (i + 2) := by
  have : (stepsOf cs chs)[i + 1]? = some ((other cs : Int) + (1 + (i : Int)), cl (news cs chs) (i + 1)) := by
    unfold stepsOf
    rw [List.cons_append, List.getElem?_cons_succ, List.getElem?_append_left (by simp; omega)]
    simp [h]
  rw [Nat.add_comm 1 i, List.take_add_one (i := i + 1), this]
  rfl
theorem stepsOf_end {cs : List Int} {chs : List (Nat × Int)} : (stepsOf cs chs).take 10 ++ [((other cs : Int), 1)] = stepsOf cs chs := by
  rfl
theorem news_len {cs : List Int} {chs : List (Nat × Int)} (h : cs.length = 20) : (news cs chs).length = 10 := by
  have : ∀ (chs : List (Nat × Int)) (b : List Int), (chs.foldl (fun b c => b.set c.1 c.2) b).length = b.length := by
    intro chs
    induction chs with
    | nil => intro b; rfl
    | cons c r ih => intro b; rw [List.foldl_cons, ih, List.length_set]
  unfold news
  rw [this, List.length_set, bank_len h]
section
variable {P : Program} {w : World} {K : PySem.W.Frag} {mg : Str → Option Value} {base : Heap}
/-- bank_of -/
def spBankOf (T : Tx K mg) : Sp := fun vs H Q E => ∃ (a : Addr) (cs : List Int), vs = [.ref a] ∧ SqL K H a (cs.map V.int) ∧ cs.length ≤ 100000 ∧
  (Any cs → ∀ p H', H p = none → Mx [] H H' → H' p = some (.lst ((bank cs).map V.int)) → Q (.ref p) H') ∧ (¬ Any cs → ∀ H', Mx [] H H' → E (.ref T.E_NoBank) none H')
theorem c_bank_of (T : Tx K mg) : Cl P w K mg base 2 "bank_of" (spBankOf T) [] := by
  refine T.f_bank_of.cl sc_bank_of (fun vs H Q E h => ?_) (fun cdv A outer s H vs Q E hr h => ?_)
  · obtain ⟨a, cs, rfl, _⟩ := h
    rfl
  · obtain ⟨a, cs, rfl, hS, hl, k1, k2⟩ := h
    refine ⟨_, (pss_cons (ps_set (i := 1) sc_bank_of.nd rfl (Or.inl rfl) (q_call (c_standing T) hr (by decide) rfl (passes_call (takes_of rfl rfl rfl rfl) (fun _ _ _ _ h => h)) (pa_cons (pv 0) pa_nil)))
      (pss_one (ps_ret (pe_slice (slL K) (pv 0) (po_some (pe_op op_mulW (pv 1) (q_const T.g_WIDE rfl))) (po_some (pe_op op_mulW (pe_op op_add (pv 1) pe_int) (q_const T.g_WIDE rfl))))))), ?_⟩
    wtm_at "go"
    refine ⟨a, cs, rfl, hS, hl, fun hA H' m => ?_, fun hA H' m => k2 hA H' m⟩
    have hs := stand_le cs
    wtm_at "go"
    rw [cut_bank hA.1] at *
    exact k1 hA _ _ (by wtm_at "fr") (by wtm_at "mx") (by assumption)
/-- steps_to -/
def spStepsTo (T : Tx K mg) : Sp := fun vs H Q _ => ∃ (a b : Addr) (cs : List Int) (us : List V) (chs : List (Nat × Int)), vs = [.ref a, .ref b] ∧ SqL K H a (cs.map V.int) ∧ Any cs ∧ SqL K H b us ∧ DpAll K H us ((chs.map chD).map stD) ∧ (∀ c ∈ chs, c.1 < 10) ∧
  (∀ p H' ws, H p = none → Mx [] H H' → H' p = some (.lst ws) → DpAll K H' ws ((stepsOf cs chs).map stD) → Q (.ref p) H')
end
end Fk
namespace Fk
open PySem PySem.Spec PyProof.Rows L2
local macro_rules | `(tactic| wtm_at "ln") => `(tactic| first
  | omega
  | (simp only [List.length_cons, List.length_nil, List.length_map, List.length_append, List.length_replicate, List.length_take, List.length_drop, List.length_set]; omega)
  | (with_unfolding_all exact (by decide)))
local macro_rules | `(tactic| wtm_at "ar") => `(tactic| first
  | ((with_reducible show CMulW _ _); (refine' mulS ?_ ?_ <;> omega))
  | ((with_reducible show CDivW _ _); (refine' divS ?_ ?_ <;> omega))
  | ((with_reducible show CPow _ _); exact ⟨by decide, by decide, by decide⟩)
  | (show (0 : Int) < _; omega)
  | (with_unfolding_all exact (by decide)))
local macro_rules | `(tactic| wtm_at "at") => `(tactic| first
  | assumption
  | (refine' cl_atE ?e80 ?h80; (case' e80 => first | exact rfl | assumption); (case' h80 => wtm_at "ln"))
  | exact rfl)
local macro_rules | `(tactic| wtm_at "fr") => `(tactic| first
  | assumption
  | ((with_reducible refine' Mx.free0 ?m99 ?h99); (case' h99 => assumption); (case' m99 => wtm_at "mo")))
local macro_rules | `(tactic| wtm_at "hp") => `(tactic| first
  | assumption
  | ((with_reducible refine' Mx.get0 ?m1 ?h1); (case' m1 => assumption); (case' h1 => wtm_at "hp"))
  | ((with_reducible refine' Mx.get ?m2 ?n2 ?h2); (case' m2 => assumption); (case' n2 => wtm_at "nin"); (case' h2 => wtm_at "hp")))
local macro_rules | `(tactic| wtm_at "sl") => `(tactic| first
  | assumption
  | ((with_reducible refine' Mx.sqL0 ?m96 ?h96); (case' h96 => assumption); (case' m96 => wtm_at "mo"))
  | (refine' SqL.of ?h3; (case' h3 => wtm_at "hp"))
  | ((with_reducible refine' Mx.sqL0 ?m4 ?h4); (case' m4 => assumption); (case' h4 => wtm_at "sl"))
  | ((with_reducible refine' Mx.sqL ?m5 ?n5 ?h5); (case' m5 => assumption); (case' n5 => wtm_at "nin"); (case' h5 => wtm_at "sl")))
local macro_rules | `(tactic| wtm_at "st") => `(tactic| first
  | assumption
  | ((with_reducible refine' Mx.sqT0 ?m97 ?h97); (case' h97 => assumption); (case' m97 => wtm_at "mo"))
  | (refine' SqT.of ?h6; (case' h6 => wtm_at "hp"))
  | ((with_reducible refine' Mx.sqT0 ?m7 ?h7); (case' m7 => assumption); (case' h7 => wtm_at "st"))
  | ((with_reducible refine' Mx.sqT ?m8 ?n8 ?h8); (case' m8 => assumption); (case' n8 => wtm_at "nin"); (case' h8 => wtm_at "st")))
local macro_rules | `(tactic| wtm_at "mx") => `(tactic| first
  | assumption
  | exact Mx.refl
  | ((with_reducible refine' Mx.of0 ?h9); (case' h9 => assumption))
  | ((with_reducible refine' Mx.trans ?h10 ?m10); (case' m10 => first | assumption | ((with_reducible refine' Mx.of0 ?q10); (case' q10 => assumption))); (case' h10 => wtm_at "mx")))
local macro_rules | `(tactic| wtm_at "mo") => `(tactic| first
  | wtm_at "mx"
  | ((with_reducible refine' Mx.own ?m90 ?f90 ?k90); (case' k90 => assumption); (case' f90 => wtm_at "fr"); (case' m90 => wtm_at "mo"))
  | ((with_reducible refine' Mx.trans ?h91 ?m91); (case' m91 => first | assumption | ((with_reducible refine' Mx.of0 ?q91); (case' q91 => assumption))); (case' h91 => wtm_at "mo")))
local macro_rules | `(tactic| wtm_at "ne") => `(tactic| first
  | assumption
  | exact Ne.symm (by assumption)
  | ((with_reducible refine' ne_of_none ?x94 ?y94); (case' y94 => assumption); (case' x94 => wtm_at "hp"))
  | ((with_reducible refine' Ne.symm (ne_of_none ?x95 ?y95)); (case' y95 => assumption); (case' x95 => wtm_at "hp")))
local macro_rules | `(tactic| wtm_at "nin") => `(tactic| first
  | assumption
  | exact List.not_mem_nil
  | ((with_reducible refine' List.not_mem_cons_of_ne_of_not_mem ?h98 ?t98); (case' h98 => wtm_at "ne"); (case' t98 => wtm_at "nin")))
local macro_rules | `(tactic| wtm_at "g1") => `(tactic| first
  | ((with_reducible refine' g_var ?h11 ?k11); (case' h11 => exact rfl))
  | with_reducible refine' g_c ?_
  | with_reducible refine' g_op ?_
  | with_reducible refine' g_I0 ?_
  | ((with_reducible refine' g_I ?c12 ?k12); (case' c12 => wtm_at "ar"))
  | with_reducible refine' g_cons ?_
  | with_reducible refine' g_nil ?_
  | with_reducible refine' g_seq ?_
  | with_reducible refine' g_asg ?_
  | with_reducible refine' g_name ?_
  | with_reducible refine' g_ret ?_
  | with_reducible refine' g_if ?_
  | with_reducible refine' g_test ?_
  | with_reducible refine' g_tB ?_
  | with_reducible refine' g_bl ?_
  | ((with_reducible refine' g_eq ?h13 ?k13); (case' h13 => exact rfl))
  | ((with_reducible refine' g_ne ?h14 ?k14); (case' h14 => exact rfl))
  | with_reducible refine' g_CB ?_
  | with_reducible refine' g_call ?_
  | with_reducible refine' g_drop ?_
  | with_reducible refine' g_next ?_
  | with_reducible refine' g_not ?_
  | with_reducible refine' g_and ?_
  | with_reducible refine' g_or ?_
  | with_reducible refine' g_un ?_
  | with_reducible refine' g_U ?_
  | with_reducible refine' g_tup ?_
  | with_reducible refine' g_lst ?_
  | ((with_reducible refine' g_kNew ?h15 ?k15); (case' h15 => wtm_at "ln"); (case' k15 => intro _ _ _ _ _))
  | ((with_reducible refine' g_ixL ?h16 ?a16 ?k16); (case' h16 => wtm_at "sl"); (case' a16 => wtm_at "at"))
  | ((with_reducible refine' g_ixT ?h17 ?a17 ?k17); (case' h17 => wtm_at "st"); (case' a17 => wtm_at "at"))
  | with_reducible refine' g_slice ?_
  | with_reducible refine' g_part ?_
  | with_reducible refine' g_kPart ?_
  | with_reducible refine' g_noPart ?_
  | ((with_reducible refine' g_slL ?h18 ?k18); (case' h18 => wtm_at "sl"); (case' k18 => intro _ _ _ _ _))
  | ((with_reducible refine' g_cat ?h119 ?h219 ?l19 ?k19); (case' h119 => wtm_at "hp"); (case' h219 => wtm_at "hp"); (case' l19 => wtm_at "ln"); (case' k19 => intro _ _ _ _ _))
  | ((with_reducible refine' g_rep ?h120 ?h220 ?h320 ?l20 ?k20); (case' h120 => wtm_at "hp"); (case' h220 => wtm_at "ln"); (case' h320 => wtm_at "ln"); (case' l20 => wtm_at "ln"); (case' k20 => intro _ _ _ _ _))
  | ((with_reducible refine' g_append ?h21 ?l21 ?k21); (case' h21 => wtm_at "hp"); (case' l21 => wtm_at "ln"); (case' k21 => intro _ _ _))
  | ((with_reducible refine' g_kBM ?h22 ?k22); (case' h22 => wtm_at "sl"))
  | ((with_reducible refine' g_kBM0 ?h23 ?k23); (case' h23 => wtm_at "sl"))
  | ((with_reducible refine' g_kL ?h24 ?k24); (case' h24 => wtm_at "sl"))
  | ((with_reducible refine' g_kR1 ?h125 ?h225 ?k25); (case' h125 => wtm_at "ln"); (case' h225 => wtm_at "ln"))
  | ((with_reducible refine' g_kR2 ?h126 ?h226 ?h326 ?h426 ?k26); (case' h126 => wtm_at "ln"); (case' h226 => wtm_at "ln"); (case' h326 => wtm_at "ln"); (case' h426 => wtm_at "ln"))
  | ((with_reducible refine' g_lenL ?h27 ?k27); (case' h27 => wtm_at "sl"))
  | ((with_reducible refine' g_lenT ?h28 ?k28); (case' h28 => wtm_at "st"))
  | ((with_reducible refine' g_listL ?h29 ?k29); (case' h29 => wtm_at "sl"); (case' k29 => intro _ _ _ _ _))
  | ((with_reducible refine' g_tupleL ?h30 ?k30); (case' h30 => wtm_at "sl"); (case' k30 => intro _ _ _ _ _))
  | with_reducible refine' g_max ?_
  | with_reducible refine' g_min ?_
  | with_reducible refine' g_intB ?_
  | with_reducible refine' g_fld ?_
  | with_reducible refine' g_put ?_
  | with_reducible refine' g_dget ?_
  | with_reducible refine' g_isN ?_
  | with_reducible refine' g_notN ?_
  | with_reducible refine' g_ifE ?_
  | with_reducible refine' g_andV ?_
  | with_reducible refine' g_orV ?_
  | with_reducible refine' g_notV ?_
  | with_reducible refine' g_kIf ?_
  | with_reducible refine' g_chain ?_
  | with_reducible refine' g_kCh ?_
  | with_reducible refine' g_sub ?_
  | ((with_reducible refine' g_setI ?h92 ?e92 ?j92 ?k92); (case' h92 => wtm_at "hp"); (case' e92 => first | exact rfl | assumption); (case' j92 => wtm_at "ln"); (case' k92 => intro _ _ _))
  | ((with_reducible refine' g_setL ?h89 ?i89 ?k89); (case' h89 => wtm_at "hp"); (case' i89 => exact ixE rfl (by wtm_at "ln")); (case' k89 => intro _ _ _))
  | ((with_reducible refine' g_gtup ?h93 ?e93 ?k93); (case' h93 => wtm_at "st"); (case' e93 => exact rfl))
  | with_reducible refine' g_gcons ?_
  | with_reducible refine' g_gnil ?_
  | with_reducible refine' g_par ?_
  | with_reducible refine' g_kPar ?_
  | with_reducible refine' g_meth ?_
  | with_reducible refine' g_bm ?_
  | with_reducible refine' g_bm0 ?_
  | with_reducible refine' g_raise ?_
  | with_reducible refine' g_for ?_
  | with_reducible refine' g_iR1 ?_
  | with_reducible refine' g_iR2 ?_
  | with_reducible refine' g_iL ?_
  | with_reducible refine' g_lc ?_
  | with_reducible refine' g_retN ?_
  | with_reducible refine' g_no (b := false) rfl ?_
  | with_reducible refine' g_yes (b := true) rfl ?_)
local macro_rules | `(tactic| wtm_at "go") => `(tactic| repeat (wtm_at "g1"))
local macro_rules | `(tactic| wtm_at "gs") => `(tactic| repeat ((fail_if_success (with_reducible refine' g_ifE ?_)); wtm_at "g1"))
local macro_rules | `(tactic| wtm_at "gi") => `(tactic| repeat ((fail_if_success (with_reducible refine' g_if ?_)); wtm_at "g1"))
local macro_rules | `(tactic| wtm_at "gr") => `(tactic| repeat ((fail_if_success (with_reducible refine' g_ret ?_)); wtm_at "g1"))
local macro_rules | `(tactic| wtm_at "gq") => `(tactic| repeat ((fail_if_success (with_reducible refine' g_asg ?_)); wtm_at "g1"))
/-! ### codes -/
abbrev Bd (x : Int) : Prop := x.natAbs < 2 ^ 300
def sgn (k m c a kd : Int) : Int := (k + 1) * (17 * m + 31 * c + 53 * a + kd) % 999983
def amt (a : Int) : Bool := decide (1 ≤ a) && decide (a ≤ 99999)
theorem amt_iff {a : Int} : amt a = true ↔ 1 ≤ a ∧ a ≤ 99999 := by simp [amt]
theorem amt_no {a : Int} : amt a = false ↔ ¬ (1 ≤ a ∧ a ≤ 99999) := by simp [amt]
/-- a code: meter, count, amount, sign -/
structure Cd where
  m : Int
  c : Int
  a : Int
  s : Int
  deriving DecidableEq
def Cd.vs (z : Cd) : List V := [.int z.m, .int z.c, .int z.a, .int z.s]
def cdD (z : Cd) : PyData := .tuple [.int z.m, .int z.c, .int z.a, .int z.s]
def mkCd (k m c a kd : Int) : Cd := ⟨m, c, a, sgn k m c a kd⟩
def good (k : Int) (z : Cd) (m c kd : Int) : Bool := decide (z.m = m) && decide (z.c = c) && amt z.a && decide (z.s = sgn k m c z.a kd)
section
variable {P : Program} {w : World} {K : PySem.W.Frag} {mg : Str → Option Value} {base : Heap}
def spSignOf : Sp := fun vs H Q _ => ∃ k m c a kd : Int, vs = [.int k, .int m, .int c, .int a, .int kd] ∧ Bd k ∧ Bd m ∧ Bd c ∧ Bd a ∧ Bd kd ∧ Q (.int (sgn k m c a kd)) H
def spCodeOf : Sp := fun vs H Q _ => ∃ k m c a kd : Int, vs = [.int k, .int m, .int c, .int a, .int kd] ∧ Bd k ∧ Bd m ∧ Bd c ∧ Bd a ∧ Bd kd ∧
  ∀ p H', H p = none → Mx [] H H' → H' p = some (.tup (mkCd k m c a kd).vs) → Q (.ref p) H'
def spIsAmount : Sp := fun vs H Q _ => ∃ a : Int, vs = [.int a] ∧ Q (.bl (amt a)) H
def spNeedAmount (T : Tx K mg) : Sp := fun vs H Q E => ∃ a : Int, vs = [.int a] ∧ (amt a = true → Q .non H) ∧ (amt a = false → E (.ref T.E_BadAmount) none H)
def spIsGood : Sp := fun vs H Q _ => ∃ (k : Int) (t : Addr) (z : Cd) (m c kd : Int), vs = [.int k, .ref t, .int m, .int c, .int kd] ∧ H t = some (.tup z.vs) ∧ Bd k ∧ Bd m ∧ Bd c ∧ Bd kd ∧ Q (.bl (good k z m c kd)) H
end
end Fk
namespace Fk
open PySem PySem.Spec PyProof.Rows L2
local macro_rules | `(tactic| wtm_at "ln") => `(tactic| first
  | omega
  | (simp only [List.length_cons, List.length_nil, List.length_map, List.length_append, List.length_replicate, List.length_take, List.length_drop, List.length_set]; omega)
  | (with_unfolding_all exact (by decide)))
local macro_rules | `(tactic| wtm_at "ar") => `(tactic| first
  | ((with_reducible show CMulW _ _); (refine' mulS ?_ ?_ <;> omega))
  | ((with_reducible show CDivW _ _); (refine' divS ?_ ?_ <;> omega))
  | ((with_reducible show CPow _ _); exact ⟨by decide, by decide, by decide⟩)
  | (show (0 : Int) < _; omega)
  | (with_unfolding_all exact (by decide)))
local macro_rules | `(tactic| wtm_at "at") => `(tactic| first
  | assumption
  | (refine' cl_atE ?e80 ?h80; (case' e80 => first | exact rfl | assumption); (case' h80 => wtm_at "ln"))
  | exact rfl)
local macro_rules | `(tactic| wtm_at "fr") => `(tactic| first
  | assumption
  | ((with_reducible refine' Mx.free0 ?m99 ?h99); (case' h99 => assumption); (case' m99 => wtm_at "mo")))
local macro_rules | `(tactic| wtm_at "hp") => `(tactic| first
  | assumption
  | ((with_reducible refine' Mx.get0 ?m1 ?h1); (case' m1 => assumption); (case' h1 => wtm_at "hp"))
  | ((with_reducible refine' Mx.get ?m2 ?n2 ?h2); (case' m2 => assumption); (case' n2 => wtm_at "nin"); (case' h2 => wtm_at "hp")))
local macro_rules | `(tactic| wtm_at "sl") => `(tactic| first
  | assumption
  | ((with_reducible refine' Mx.sqL0 ?m96 ?h96); (case' h96 => assumption); (case' m96 => wtm_at "mo"))
  | (refine' SqL.of ?h3; (case' h3 => wtm_at "hp"))
  | ((with_reducible refine' Mx.sqL0 ?m4 ?h4); (case' m4 => assumption); (case' h4 => wtm_at "sl"))
  | ((with_reducible refine' Mx.sqL ?m5 ?n5 ?h5); (case' m5 => assumption); (case' n5 => wtm_at "nin"); (case' h5 => wtm_at "sl")))
local macro_rules | `(tactic| wtm_at "st") => `(tactic| first
  | assumption
  | ((with_reducible refine' Mx.sqT0 ?m97 ?h97); (case' h97 => assumption); (case' m97 => wtm_at "mo"))
  | (refine' SqT.of ?h6; (case' h6 => wtm_at "hp"))
  | ((with_reducible refine' Mx.sqT0 ?m7 ?h7); (case' m7 => assumption); (case' h7 => wtm_at "st"))
  | ((with_reducible refine' Mx.sqT ?m8 ?n8 ?h8); (case' m8 => assumption); (case' n8 => wtm_at "nin"); (case' h8 => wtm_at "st")))
local macro_rules | `(tactic| wtm_at "mx") => `(tactic| first
  | assumption
  | exact Mx.refl
  | ((with_reducible refine' Mx.of0 ?h9); (case' h9 => assumption))
  | ((with_reducible refine' Mx.trans ?h10 ?m10); (case' m10 => first | assumption | ((with_reducible refine' Mx.of0 ?q10); (case' q10 => assumption))); (case' h10 => wtm_at "mx")))
local macro_rules | `(tactic| wtm_at "mo") => `(tactic| first
  | wtm_at "mx"
  | ((with_reducible refine' Mx.own ?m90 ?f90 ?k90); (case' k90 => assumption); (case' f90 => wtm_at "fr"); (case' m90 => wtm_at "mo"))
  | ((with_reducible refine' Mx.trans ?h91 ?m91); (case' m91 => first | assumption | ((with_reducible refine' Mx.of0 ?q91); (case' q91 => assumption))); (case' h91 => wtm_at "mo")))
local macro_rules | `(tactic| wtm_at "ne") => `(tactic| first
  | assumption
  | exact Ne.symm (by assumption)
  | ((with_reducible refine' ne_of_none ?x94 ?y94); (case' y94 => assumption); (case' x94 => wtm_at "hp"))
  | ((with_reducible refine' Ne.symm (ne_of_none ?x95 ?y95)); (case' y95 => assumption); (case' x95 => wtm_at "hp")))
local macro_rules | `(tactic| wtm_at "nin") => `(tactic| first
  | assumption
  | exact List.not_mem_nil
  | ((with_reducible refine' List.not_mem_cons_of_ne_of_not_mem ?h98 ?t98); (case' h98 => wtm_at "ne"); (case' t98 => wtm_at "nin")))
local macro_rules | `(tactic| wtm_at "g1") => `(tactic| first
  | ((with_reducible refine' g_var ?h11 ?k11); (case' h11 => exact rfl))
  | with_reducible refine' g_c ?_
  | with_reducible refine' g_op ?_
  | with_reducible refine' g_I0 ?_
  | ((with_reducible refine' g_I ?c12 ?k12); (case' c12 => wtm_at "ar"))
  | with_reducible refine' g_cons ?_
  | with_reducible refine' g_nil ?_
  | with_reducible refine' g_seq ?_
  | with_reducible refine' g_asg ?_
  | with_reducible refine' g_name ?_
  | with_reducible refine' g_ret ?_
  | with_reducible refine' g_if ?_
  | with_reducible refine' g_test ?_
  | with_reducible refine' g_tB ?_
  | with_reducible refine' g_bl ?_
  | ((with_reducible refine' g_eq ?h13 ?k13); (case' h13 => exact rfl))
  | ((with_reducible refine' g_ne ?h14 ?k14); (case' h14 => exact rfl))
  | with_reducible refine' g_CB ?_
  | with_reducible refine' g_call ?_
  | with_reducible refine' g_drop ?_
  | with_reducible refine' g_next ?_
  | with_reducible refine' g_not ?_
  | with_reducible refine' g_and ?_
  | with_reducible refine' g_or ?_
  | with_reducible refine' g_un ?_
  | with_reducible refine' g_U ?_
  | with_reducible refine' g_tup ?_
  | with_reducible refine' g_lst ?_
  | ((with_reducible refine' g_kNew ?h15 ?k15); (case' h15 => wtm_at "ln"); (case' k15 => intro _ _ _ _ _))
  | ((with_reducible refine' g_ixL ?h16 ?a16 ?k16); (case' h16 => wtm_at "sl"); (case' a16 => wtm_at "at"))
  | ((with_reducible refine' g_ixT ?h17 ?a17 ?k17); (case' h17 => wtm_at "st"); (case' a17 => wtm_at "at"))
  | with_reducible refine' g_slice ?_
  | with_reducible refine' g_part ?_
  | with_reducible refine' g_kPart ?_
  | with_reducible refine' g_noPart ?_
  | ((with_reducible refine' g_slL ?h18 ?k18); (case' h18 => wtm_at "sl"); (case' k18 => intro _ _ _ _ _))
  | ((with_reducible refine' g_cat ?h119 ?h219 ?l19 ?k19); (case' h119 => wtm_at "hp"); (case' h219 => wtm_at "hp"); (case' l19 => wtm_at "ln"); (case' k19 => intro _ _ _ _ _))
  | ((with_reducible refine' g_rep ?h120 ?h220 ?h320 ?l20 ?k20); (case' h120 => wtm_at "hp"); (case' h220 => wtm_at "ln"); (case' h320 => wtm_at "ln"); (case' l20 => wtm_at "ln"); (case' k20 => intro _ _ _ _ _))
  | ((with_reducible refine' g_append ?h21 ?l21 ?k21); (case' h21 => wtm_at "hp"); (case' l21 => wtm_at "ln"); (case' k21 => intro _ _ _))
  | ((with_reducible refine' g_kBM ?h22 ?k22); (case' h22 => wtm_at "sl"))
  | ((with_reducible refine' g_kBM0 ?h23 ?k23); (case' h23 => wtm_at "sl"))
  | ((with_reducible refine' g_kL ?h24 ?k24); (case' h24 => wtm_at "sl"))
  | ((with_reducible refine' g_kR1 ?h125 ?h225 ?k25); (case' h125 => wtm_at "ln"); (case' h225 => wtm_at "ln"))
  | ((with_reducible refine' g_kR2 ?h126 ?h226 ?h326 ?h426 ?k26); (case' h126 => wtm_at "ln"); (case' h226 => wtm_at "ln"); (case' h326 => wtm_at "ln"); (case' h426 => wtm_at "ln"))
  | ((with_reducible refine' g_lenL ?h27 ?k27); (case' h27 => wtm_at "sl"))
  | ((with_reducible refine' g_lenT ?h28 ?k28); (case' h28 => wtm_at "st"))
  | ((with_reducible refine' g_listL ?h29 ?k29); (case' h29 => wtm_at "sl"); (case' k29 => intro _ _ _ _ _))
  | ((with_reducible refine' g_tupleL ?h30 ?k30); (case' h30 => wtm_at "sl"); (case' k30 => intro _ _ _ _ _))
  | with_reducible refine' g_max ?_
  | with_reducible refine' g_min ?_
  | with_reducible refine' g_intB ?_
  | with_reducible refine' g_fld ?_
  | with_reducible refine' g_put ?_
  | with_reducible refine' g_dget ?_
  | with_reducible refine' g_isN ?_
  | with_reducible refine' g_notN ?_
  | with_reducible refine' g_ifE ?_
  | with_reducible refine' g_andV ?_
  | with_reducible refine' g_orV ?_
  | with_reducible refine' g_notV ?_
  | with_reducible refine' g_kIf ?_
  | with_reducible refine' g_chain ?_
  | with_reducible refine' g_kCh ?_
  | with_reducible refine' g_sub ?_
  | ((with_reducible refine' g_setI ?h92 ?e92 ?j92 ?k92); (case' h92 => wtm_at "hp"); (case' e92 => first | exact rfl | assumption); (case' j92 => wtm_at "ln"); (case' k92 => intro _ _ _))
  | ((with_reducible refine' g_setL ?h89 ?i89 ?k89); (case' h89 => wtm_at "hp"); (case' i89 => exact ixE rfl (by wtm_at "ln")); (case' k89 => intro _ _ _))
  | ((with_reducible refine' g_gtup ?h93 ?e93 ?k93); (case' h93 => wtm_at "st"); (case' e93 => exact rfl))
  | with_reducible refine' g_gcons ?_
  | with_reducible refine' g_gnil ?_
  | with_reducible refine' g_par ?_
  | with_reducible refine' g_kPar ?_
  | with_reducible refine' g_meth ?_
  | with_reducible refine' g_bm ?_
  | with_reducible refine' g_bm0 ?_
  | with_reducible refine' g_raise ?_
  | with_reducible refine' g_for ?_
  | with_reducible refine' g_iR1 ?_
  | with_reducible refine' g_iR2 ?_
  | with_reducible refine' g_iL ?_
  | with_reducible refine' g_lc ?_
  | with_reducible refine' g_retN ?_
  | with_reducible refine' g_no (b := false) rfl ?_
  | with_reducible refine' g_yes (b := true) rfl ?_)
local macro_rules | `(tactic| wtm_at "go") => `(tactic| repeat (wtm_at "g1"))
local macro_rules | `(tactic| wtm_at "gs") => `(tactic| repeat ((fail_if_success (with_reducible refine' g_ifE ?_)); wtm_at "g1"))
local macro_rules | `(tactic| wtm_at "gi") => `(tactic| repeat ((fail_if_success (with_reducible refine' g_if ?_)); wtm_at "g1"))
local macro_rules | `(tactic| wtm_at "gr") => `(tactic| repeat ((fail_if_success (with_reducible refine' g_ret ?_)); wtm_at "g1"))
local macro_rules | `(tactic| wtm_at "gq") => `(tactic| repeat ((fail_if_success (with_reducible refine' g_asg ?_)); wtm_at "g1"))
/-! ### meters -/
structure Mt where
  num : Int
  key : Int
  cells : List Int
  stamps : List (Int × Int)
  up : Bool
/-- the i-th number of the bank that stands -/
def bk (μ : Mt) (i : Nat) : Int := cl (bank μ.cells) i
def mFlds (μ : Mt) (pm pp : Addr) : List (Str × V) := [("own", .int μ.num), ("key", .int μ.key), ("memory", .ref pm), ("prints", .ref pp), ("awake", .bl μ.up)]
/-- the meter μ stands at p, its cells at pm, its stamps at pp -/
structure MetAt (K : PySem.W.Frag) (C : Addr) (H : Hp) (p pm pp : Addr) (μ : Mt) : Prop where
  ob : ∃ dx, H p = some (.ins C dx (mFlds μ pm pp))
  me : H pm = some (.lst (μ.cells.map V.int))
  pr : ∃ vs, H pp = some (.lst vs) ∧ DpAll K H vs (μ.stamps.map stD)
  ne : pm ≠ pp
theorem MetAt.mx {K : PySem.W.Frag} {C : Addr} {S : List Addr} {H H' : Hp} {p pm pp : Addr} {μ : Mt} (M : MetAt K C H p pm pp μ) (m : Mx S H H') (n : NoTup H S) (h1 : p ∉ S) (h2 : pm ∉ S) (h3 : pp ∉ S) : MetAt K C H' p pm pp μ := by
  obtain ⟨⟨dx, ob⟩, me, ⟨vs, pr, dp⟩, ne⟩ := M
  exact ⟨⟨dx, m _ _ ob h1⟩, m _ _ me h2, ⟨vs, m _ _ pr h3, m.sts n dp⟩, ne⟩
theorem noTup0 {H : Hp} : NoTup H [] := fun _ h => by simp at h
theorem MetAt.mx0 {K : PySem.W.Frag} {C : Addr} {H H' : Hp} {p pm pp : Addr} {μ : Mt} (M : MetAt K C H p pm pp μ) (m : Mx [] H H') : MetAt K C H' p pm pp μ := M.mx m noTup0 (by simp) (by simp) (by simp)
theorem MetAt.p_pm {K : PySem.W.Frag} {C : Addr} {H : Hp} {p pm pp : Addr} {μ : Mt} (M : MetAt K C H p pm pp μ) : p ≠ pm := by
  obtain ⟨⟨dx, ob⟩, me, _, _⟩ := M
  exact ne_of ob me fun z => nomatch z
theorem MetAt.p_pp {K : PySem.W.Frag} {C : Addr} {H : Hp} {p pm pp : Addr} {μ : Mt} (M : MetAt K C H p pm pp μ) : p ≠ pp := by
  obtain ⟨⟨dx, ob⟩, _, ⟨vs, pr, _⟩, _⟩ := M
  exact ne_of ob pr fun z => nomatch z
theorem noTupI {H : Hp} {p C dx : Addr} {fs : List (Str × V)} (h : H p = some (.ins C dx fs)) : NoTup H [p] := fun x hx u e => by
  simp at hx; subst hx; rw [h] at e; cases e; exact ⟨(fun _ z => nomatch z), (fun _ _ z => nomatch z)⟩
/-! what a def does to a meter -/
def lastNo (ss : List (Int × Int)) : Int := match ss.getLast? with
  | some s => s.1
  | none => 0
def owed (μ : Mt) : Option (Int × Int) := if lastNo μ.stamps < bk μ 8 then some (bk μ 8, bk μ 9) else none
def wr (cs : List Int) (st : List (Int × Int)) (k : Nat) : List Int := (st.take k).foldl (fun cs s => cs.set s.1.toNat s.2) cs
theorem wr_succ {cs : List Int} {st : List (Int × Int)} {i : Nat} {s : Int × Int} (h : st[i]? = some s) : wr cs st (i + 1) = (wr cs st i).set s.1.toNat s.2 := by
  unfold wr
  rw [List.take_add_one, h, List.foldl_append]
  rfl
theorem wr_len (cs : List Int) (st : List (Int × Int)) (k : Nat) : (wr cs st k).length = cs.length := by
  have : ∀ (st : List (Int × Int)) (b : List Int), (st.foldl (fun cs s => cs.set s.1.toNat s.2) b).length = b.length := by
    intro st
    induction st with
    | nil => intro b; rfl
    | cons c r ih => intro b; rw [List.foldl_cons, ih, List.length_set]
  exact this _ _
theorem stepsOf_len (cs : List Int) (chs : List (Nat × Int)) : (stepsOf cs chs).length = 11 := by simp [stepsOf]
theorem other_le (cs : List Int) : other cs ≤ 10 := by
  have := stand_le cs
  unfold other; omega
theorem stepsOf_ix {cs : List Int} {chs : List (Nat × Int)} {s : Int × Int} (h : s ∈ stepsOf cs chs) : ∃ j : Nat, s.1 = (j : Int) ∧ j < 20 := by
  have := other_le cs
  simp only [stepsOf, List.cons_append, List.mem_cons, List.mem_append, List.mem_map, List.mem_range, List.not_mem_nil, or_false] at h
  rcases h with h | ⟨k, hk, h⟩ | h
  · exact ⟨other cs, by rw [h], by omega⟩
  · exact ⟨other cs + (1 + k), by rw [← h]; simp, by omega⟩
  · exact ⟨other cs, by rw [h], by omega⟩
/-- a cut as it is handed in -/
def cutO : Option Nat → V
  | none => .non
  | some k => .int k
def leftV : Option (Option Nat) → V
  | none => .int (-1)
  | some c => cutO c
def writeM (μ : Mt) (chs : List (Nat × Int)) (cut : Option Nat) : Option (Option Nat) × Mt :=
  match cut with
  | some k => if k < 11 then (none, { μ with cells := wr μ.cells (stepsOf μ.cells chs) k, up := false }) else (some (some (k - 11)), { μ with cells := wr μ.cells (stepsOf μ.cells chs) 11 })
  | none => (some none, { μ with cells := wr μ.cells (stepsOf μ.cells chs) 11 })
def printM (μ : Mt) (cut : Option Nat) : Bool × Mt :=
  match owed μ with
  | none => (true, μ)
  | some s => if cut = some 0 then (false, { μ with up := false }) else (true, { μ with stamps := μ.stamps ++ [s] })
section
variable {P : Program} {w : World} {K : PySem.W.Frag} {mg : Str → Option Value} {base : Heap}
section
variable {σ : L2.St} {H : Hp} {Q : VK} {p pm pp dx : Addr} {μ : Mt} {N : Hp → Prop} {b : Bool}
theorem g_fOwn (T : Tx K mg) (h : H p = some (.ins T.C_Meter dx (mFlds μ pm pp))) (k : Q (.int μ.num) H) : kFld K "own" Q (.ref p) H := g_kFld h T.cls_Meter T.na_Meter_own rfl k
theorem g_fKey (T : Tx K mg) (h : H p = some (.ins T.C_Meter dx (mFlds μ pm pp))) (k : Q (.int μ.key) H) : kFld K "key" Q (.ref p) H := g_kFld h T.cls_Meter T.na_Meter_key rfl k
theorem g_fMem (T : Tx K mg) (h : H p = some (.ins T.C_Meter dx (mFlds μ pm pp))) (k : Q (.ref pm) H) : kFld K "memory" Q (.ref p) H := g_kFld h T.cls_Meter T.na_Meter_memory rfl k
theorem g_fPri (T : Tx K mg) (h : H p = some (.ins T.C_Meter dx (mFlds μ pm pp))) (k : Q (.ref pp) H) : kFld K "prints" Q (.ref p) H := g_kFld h T.cls_Meter T.na_Meter_prints rfl k
theorem g_fAwa (T : Tx K mg) (h : H p = some (.ins T.C_Meter dx (mFlds μ pm pp))) (k : Q (.bl μ.up) H) : kFld K "awake" Q (.ref p) H := g_kFld h T.cls_Meter T.na_Meter_awake rfl k
theorem g_pAwa (T : Tx K mg) (h : H p = some (.ins T.C_Meter dx (mFlds μ pm pp))) (k : ∀ H', Mx [p] H H' → H' p = some (.ins T.C_Meter dx (mFlds { μ with up := b } pm pp)) → N H') : kPut K "awake" (.bl b) N (.ref p) H :=
  g_kPut h T.cls_Meter T.na_Meter_awake rfl (by show 5 < 1000; decide) k
end
local macro_rules | `(tactic| wtm_at "g1") => `(tactic| first
  | ((with_reducible refine' g_fOwn (by assumption) ?h201 ?k201); (case' h201 => wtm_at "hp"))
  | ((with_reducible refine' g_fKey (by assumption) ?h202 ?k202); (case' h202 => wtm_at "hp"))
  | ((with_reducible refine' g_fMem (by assumption) ?h203 ?k203); (case' h203 => wtm_at "hp"))
  | ((with_reducible refine' g_fPri (by assumption) ?h204 ?k204); (case' h204 => wtm_at "hp"))
  | ((with_reducible refine' g_fAwa (by assumption) ?h205 ?k205); (case' h205 => wtm_at "hp"))
  | ((with_reducible refine' g_pAwa (by assumption) ?h206 ?k206); (case' h206 => wtm_at "hp"); (case' k206 => intro _ _ _))
  | ((with_reducible refine' g_kMeth ?h207 ?l207 ?k207); (case' h207 => wtm_at "hp"); (case' l207 => exact rfl)))

def spNeedKey (T : Tx K mg) : Sp := fun vs H Q E => ∃ a : Int, vs = [.int a] ∧ (0 ≤ a ∧ a ≤ 999981 → Q .non H) ∧ (¬ (0 ≤ a ∧ a ≤ 999981) → E (.ref T.E_BadNumber) none H)
theorem c_need_key (T : Tx K mg) : Cl P w K mg base 1 "need_key" (spNeedKey T) [] := by
  refine T.f_need_key.cl sc_need_key (fun vs H Q E h => ?_) (fun cdv A outer s H vs Q E hr h => ?_)
  · obtain ⟨_, rfl, _⟩ := h
    rfl
  · obtain ⟨a, rfl, q1, q2⟩ := h
    refine ⟨_, (pss_one (ps_if (pt_not (pt_chain op_le op_le pe_int (pv 0) (q_const T.g_MOST_KEY rfl))) (pss_one (q_raise rfl (takes_of rfl rfl rfl rfl) T.x_BadNumber rfl)) pss_nil)), ?_⟩
    wtm_at "go"
    refine g_ite (fun e => ?_) (fun e => ?_)
    · wtm_at "go"
      refine g_ite (fun e2 => ?_) (fun e2 => ?_)
      · wtm_at "go"
        simp at e e2
        exact q2 (by omega)
      · wtm_at "go"
        simp at e e2
        exact q1 (by omega)
    · wtm_at "go"
      simp at e
      exact q2 (by omega)
def spNeedNumber (T : Tx K mg) : Sp := fun vs H Q E => ∃ a : Int, vs = [.int a] ∧ (1 ≤ a ∧ a ≤ 9999 → Q .non H) ∧ (¬ (1 ≤ a ∧ a ≤ 9999) → E (.ref T.E_BadNumber) none H)
theorem c_need_number (T : Tx K mg) : Cl P w K mg base 1 "need_number" (spNeedNumber T) [] := by
  refine T.f_need_number.cl sc_need_number (fun vs H Q E h => ?_) (fun cdv A outer s H vs Q E hr h => ?_)
  · obtain ⟨_, rfl, _⟩ := h
    rfl
  · obtain ⟨a, rfl, q1, q2⟩ := h
    refine ⟨_, (pss_one (ps_if (pt_not (pt_chain op_le op_le pe_int (pv 0) (q_const T.g_MOST_NUMBER rfl))) (pss_one (q_raise rfl (takes_of rfl rfl rfl rfl) T.x_BadNumber rfl)) pss_nil)), ?_⟩
    wtm_at "go"
    refine g_ite (fun e => ?_) (fun e => ?_)
    · wtm_at "go"
      refine g_ite (fun e2 => ?_) (fun e2 => ?_)
      · wtm_at "go"
        simp at e e2
        exact q2 (by omega)
      · wtm_at "go"
        simp at e e2
        exact q1 (by omega)
    · wtm_at "go"
      simp at e
      exact q2 (by omega)
/-- Meter(number, key): the new meter -/
def spInit (T : Tx K mg) : Sp := fun vs H Q E => ∃ (p dx : Addr) (n k : Int), vs = [.ref p, .int n, .int k] ∧ H p = some (.ins T.C_Meter dx []) ∧
  ((1 ≤ n ∧ n ≤ 9999) ∧ (0 ≤ k ∧ k ≤ 999981) → ∀ pm pp H', H pm = none → H pp = none → Mx [p] H H' → MetAt K T.C_Meter H' p pm pp ⟨n, k, 1 :: List.replicate 19 0, [], true⟩ → Q .non H') ∧
  (¬ ((1 ≤ n ∧ n ≤ 9999) ∧ (0 ≤ k ∧ k ≤ 999981)) → E (.ref T.E_BadNumber) none H)
theorem mt_Meter___init__ (T : Tx K mg) : Me P w K mg base 2 T.C_Meter "__init__" (spInit T) [] := by
  refine T.m_Meter___init__.me T.cls_Meter sc_Meter___init__ (fun vs H Q E h => ?_) (fun cdv A outer s H vs Q E hr h => ?_)
  · obtain ⟨_, _, _, _, rfl, _⟩ := h
    rfl
  · obtain ⟨p, dx, n, k, rfl, hp, q1, q2⟩ := h
    refine ⟨_, (pss_cons (ps_expr (q_call (c_need_number T) hr (by decide) rfl (passes_call (takes_of rfl rfl rfl rfl) (fun _ _ _ _ h => h)) (pa_cons (pv 1) pa_nil)))
      (pss_cons (ps_expr (q_call (c_need_key T) hr (by decide) rfl (passes_call (takes_of rfl rfl rfl rfl) (fun _ _ _ _ h => h)) (pa_cons (pv 2) pa_nil)))
      (pss_cons (psFld K (pv 0) (pv 1) rfl)
      (pss_cons (psFld K (pv 0) (pv 2) rfl)
      (pss_cons (psFld K (pv 0) (q_call0 (c_at_first T) hr (by decide) rfl (passes_call (takes_of rfl rfl rfl rfl) (fun _ _ _ _ h => h))) rfl)
      (pss_cons (psFld K (pv 0) (pe_lst pa_nil) rfl)
      (pss_one (psFld K (pv 0) pe_bl rfl)))))))), ?_⟩
    wtm_at "go"
    refine ⟨n, rfl, fun hn => ?_, fun hn => q2 fun z => hn z.1⟩
    wtm_at "go"
    refine ⟨k, rfl, fun hk => ?_, fun hk => q2 fun z => hk z.2⟩
    wtm_at "go"
    refine g_kPut hp T.cls_Meter T.na_Meter_own rfl (by decide) fun H1 m1 e1 => ?_
    wtm_at "go"
    refine g_kPut e1 T.cls_Meter T.na_Meter_key rfl (by show 1 < 1000; decide) fun H2 m2 e2 => ?_
    wtm_at "go"
    refine ⟨rfl, fun pm H3 n3 m3 e3 => ?_⟩
    wtm_at "go"
    refine g_kPut (m3.get0 e2) T.cls_Meter T.na_Meter_memory rfl (by show 2 < 1000; decide) fun H4 m4 e4 => ?_
    wtm_at "go"
    rename_i pp H5 n5 m5 e5
    refine g_kPut (m5.get0 e4) T.cls_Meter T.na_Meter_prints rfl (by show 3 < 1000; decide) fun H6 m6 e6 => ?_
    wtm_at "go"
    refine g_kPut e6 T.cls_Meter T.na_Meter_awake rfl (by show 4 < 1000; decide) fun H7 m7 e7 => ?_
    have c1 : Mx [p] H H2 := m1.trans m2
    have c2 : Mx [p] H H4 := (c1.trans m3.of0).trans m4
    have d1 : pm ≠ p := (ne_of_none e2 n3).symm
    have d2 : pp ≠ p := (ne_of_none e4 n5).symm
    have f1 : H4 pm = some (.lst ((1 :: List.replicate 19 0 : List Int).map V.int)) := m4 _ _ e3 (by simpa using d1)
    have d3 : pm ≠ pp := ne_of_none f1 n5
    refine q1 ⟨hn, hk⟩ pm pp H7 (c1.free n3 (by simpa using d1)) (c2.free n5 (by simpa using d2)) (((c2.trans m5.of0).trans m6).trans m7) ⟨⟨dx, e7⟩, ?_, ⟨[], ?_, .nil⟩, d3⟩
    · exact m7 _ _ (m6 _ _ (m5.get0 f1) (by simpa using d1)) (by simpa using d1)
    · exact m7 _ _ (m6 _ _ e5 (by simpa using d2)) (by simpa using d2)
theorem mk_Meter (T : Tx K mg) : Ma P w K mg base 2 "Meter" T.C_Meter (spInit T) [] := by
  obtain ⟨f, fd, ps, ds, _, m, F, b, d⟩ := (mt_Meter___init__ (P := P) (w := w) (base := base) T).ex
  exact ⟨f, fd, ps, ds, ⟨T.mk_Meter_, m.at_, m.fn, T.kc_Meter⟩, F, T.g_Meter, b, d⟩
/-- number, cells, stamps, is_up -/
def spNumber (T : Tx K mg) : Sp := fun vs H Q _ => ∃ (p pm pp : Addr) (μ : Mt), vs = [.ref p] ∧ MetAt K T.C_Meter H p pm pp μ ∧ Q (.int μ.num) H
theorem mt_Meter_number (T : Tx K mg) : Me P w K mg base 1 T.C_Meter "number" (spNumber T) [] := by
  refine T.m_Meter_number.me T.cls_Meter sc_Meter_number (fun vs H Q E h => ?_) (fun cdv A outer s H vs Q E hr h => ?_)
  · obtain ⟨_, _, _, _, rfl, _⟩ := h
    rfl
  · obtain ⟨p, pm, pp, μ, rfl, ⟨⟨dx, ob⟩, me, pr, ne⟩, q⟩ := h
    refine ⟨_, (pss_one (ps_ret (fldK K (pv 0) rfl))), ?_⟩
    wtm_at "go"
    exact q
def spIsUp (T : Tx K mg) : Sp := fun vs H Q _ => ∃ (p pm pp : Addr) (μ : Mt), vs = [.ref p] ∧ MetAt K T.C_Meter H p pm pp μ ∧ Q (.bl μ.up) H
def spCells (T : Tx K mg) : Sp := fun vs H Q _ => ∃ (p pm pp : Addr) (μ : Mt), vs = [.ref p] ∧ MetAt K T.C_Meter H p pm pp μ ∧ ∀ l H', H l = none → Mx [] H H' → H' l = some (.lst (μ.cells.map V.int)) → Q (.ref l) H'
def spStamps (T : Tx K mg) : Sp := fun vs H Q _ => ∃ (p pm pp : Addr) (μ : Mt), vs = [.ref p] ∧ MetAt K T.C_Meter H p pm pp μ ∧ ∀ l ws H', H l = none → Mx [] H H' → H' l = some (.lst ws) → DpAll K H' ws (μ.stamps.map stD) → Q (.ref l) H'
/-- sums -/
def spSums (T : Tx K mg) : Sp := fun vs H Q _ => ∃ (p pm pp : Addr) (μ : Mt), vs = [.ref p] ∧ MetAt K T.C_Meter H p pm pp μ ∧ Any μ.cells ∧ ∀ l H', H l = none → Mx [] H H' → H' l = some (.tup [.int (bk μ 2), .int (bk μ 3), .int (bk μ 4)]) → Q (.ref l) H'
def spNeedUp (T : Tx K mg) : Sp := fun vs H Q E => ∃ (p pm pp : Addr) (μ : Mt), vs = [.ref p] ∧ MetAt K T.C_Meter H p pm pp μ ∧ (μ.up = true → Q .non H) ∧ (μ.up = false → E (.ref T.E_Down) none H)
end
end Fk
namespace Fk
open PySem PySem.Spec PyProof.Rows L2
local macro_rules | `(tactic| wtm_at "ln") => `(tactic| first
  | omega
  | (simp only [List.length_cons, List.length_nil, List.length_map, List.length_append, List.length_replicate, List.length_take, List.length_drop, List.length_set]; omega)
  | (with_unfolding_all exact (by decide)))
local macro_rules | `(tactic| wtm_at "ar") => `(tactic| first
  | ((with_reducible show CMulW _ _); (refine' mulS ?_ ?_ <;> omega))
  | ((with_reducible show CDivW _ _); (refine' divS ?_ ?_ <;> omega))
  | ((with_reducible show CPow _ _); exact ⟨by decide, by decide, by decide⟩)
  | (show (0 : Int) < _; omega)
  | (with_unfolding_all exact (by decide)))
local macro_rules | `(tactic| wtm_at "at") => `(tactic| first
  | assumption
  | (refine' cl_atE ?e80 ?h80; (case' e80 => first | exact rfl | assumption); (case' h80 => wtm_at "ln"))
  | exact rfl)
local macro_rules | `(tactic| wtm_at "fr") => `(tactic| first
  | assumption
  | ((with_reducible refine' Mx.free0 ?m99 ?h99); (case' h99 => assumption); (case' m99 => wtm_at "mo")))
local macro_rules | `(tactic| wtm_at "hp") => `(tactic| first
  | assumption
  | ((with_reducible refine' Mx.get0 ?m1 ?h1); (case' m1 => assumption); (case' h1 => wtm_at "hp"))
  | ((with_reducible refine' Mx.get ?m2 ?n2 ?h2); (case' m2 => assumption); (case' n2 => wtm_at "nin"); (case' h2 => wtm_at "hp")))
local macro_rules | `(tactic| wtm_at "sl") => `(tactic| first
  | assumption
  | ((with_reducible refine' Mx.sqL0 ?m96 ?h96); (case' h96 => assumption); (case' m96 => wtm_at "mo"))
  | (refine' SqL.of ?h3; (case' h3 => wtm_at "hp"))
  | ((with_reducible refine' Mx.sqL0 ?m4 ?h4); (case' m4 => assumption); (case' h4 => wtm_at "sl"))
  | ((with_reducible refine' Mx.sqL ?m5 ?n5 ?h5); (case' m5 => assumption); (case' n5 => wtm_at "nin"); (case' h5 => wtm_at "sl")))
local macro_rules | `(tactic| wtm_at "st") => `(tactic| first
  | assumption
  | ((with_reducible refine' Mx.sqT0 ?m97 ?h97); (case' h97 => assumption); (case' m97 => wtm_at "mo"))
  | (refine' SqT.of ?h6; (case' h6 => wtm_at "hp"))
  | ((with_reducible refine' Mx.sqT0 ?m7 ?h7); (case' m7 => assumption); (case' h7 => wtm_at "st"))
  | ((with_reducible refine' Mx.sqT ?m8 ?n8 ?h8); (case' m8 => assumption); (case' n8 => wtm_at "nin"); (case' h8 => wtm_at "st")))
local macro_rules | `(tactic| wtm_at "mx") => `(tactic| first
  | assumption
  | exact Mx.refl
  | ((with_reducible refine' Mx.of0 ?h9); (case' h9 => assumption))
  | ((with_reducible refine' Mx.trans ?h10 ?m10); (case' m10 => first | assumption | ((with_reducible refine' Mx.of0 ?q10); (case' q10 => assumption))); (case' h10 => wtm_at "mx")))
local macro_rules | `(tactic| wtm_at "mo") => `(tactic| first
  | wtm_at "mx"
  | ((with_reducible refine' Mx.own ?m90 ?f90 ?k90); (case' k90 => assumption); (case' f90 => wtm_at "fr"); (case' m90 => wtm_at "mo"))
  | ((with_reducible refine' Mx.trans ?h91 ?m91); (case' m91 => first | assumption | ((with_reducible refine' Mx.of0 ?q91); (case' q91 => assumption))); (case' h91 => wtm_at "mo")))
local macro_rules | `(tactic| wtm_at "ne") => `(tactic| first
  | assumption
  | exact Ne.symm (by assumption)
  | ((with_reducible refine' ne_of_none ?x94 ?y94); (case' y94 => assumption); (case' x94 => wtm_at "hp"))
  | ((with_reducible refine' Ne.symm (ne_of_none ?x95 ?y95)); (case' y95 => assumption); (case' x95 => wtm_at "hp")))
local macro_rules | `(tactic| wtm_at "nin") => `(tactic| first
  | assumption
  | exact List.not_mem_nil
  | ((with_reducible refine' List.not_mem_cons_of_ne_of_not_mem ?h98 ?t98); (case' h98 => wtm_at "ne"); (case' t98 => wtm_at "nin")))
local macro_rules | `(tactic| wtm_at "g1") => `(tactic| first
  | ((with_reducible refine' g_var ?h11 ?k11); (case' h11 => exact rfl))
  | with_reducible refine' g_c ?_
  | with_reducible refine' g_op ?_
  | with_reducible refine' g_I0 ?_
  | ((with_reducible refine' g_I ?c12 ?k12); (case' c12 => wtm_at "ar"))
  | with_reducible refine' g_cons ?_
  | with_reducible refine' g_nil ?_
  | with_reducible refine' g_seq ?_
  | with_reducible refine' g_asg ?_
  | with_reducible refine' g_name ?_
  | with_reducible refine' g_ret ?_
  | with_reducible refine' g_if ?_
  | with_reducible refine' g_test ?_
  | with_reducible refine' g_tB ?_
  | with_reducible refine' g_bl ?_
  | ((with_reducible refine' g_eq ?h13 ?k13); (case' h13 => exact rfl))
  | ((with_reducible refine' g_ne ?h14 ?k14); (case' h14 => exact rfl))
  | with_reducible refine' g_CB ?_
  | with_reducible refine' g_call ?_
  | with_reducible refine' g_drop ?_
  | with_reducible refine' g_next ?_
  | with_reducible refine' g_not ?_
  | with_reducible refine' g_and ?_
  | with_reducible refine' g_or ?_
  | with_reducible refine' g_un ?_
  | with_reducible refine' g_U ?_
  | with_reducible refine' g_tup ?_
  | with_reducible refine' g_lst ?_
  | ((with_reducible refine' g_kNew ?h15 ?k15); (case' h15 => wtm_at "ln"); (case' k15 => intro _ _ _ _ _))
  | ((with_reducible refine' g_ixL ?h16 ?a16 ?k16); (case' h16 => wtm_at "sl"); (case' a16 => wtm_at "at"))
  | ((with_reducible refine' g_ixT ?h17 ?a17 ?k17); (case' h17 => wtm_at "st"); (case' a17 => wtm_at "at"))
  | with_reducible refine' g_slice ?_
  | with_reducible refine' g_part ?_
  | with_reducible refine' g_kPart ?_
  | with_reducible refine' g_noPart ?_
  | ((with_reducible refine' g_slL ?h18 ?k18); (case' h18 => wtm_at "sl"); (case' k18 => intro _ _ _ _ _))
  | ((with_reducible refine' g_cat ?h119 ?h219 ?l19 ?k19); (case' h119 => wtm_at "hp"); (case' h219 => wtm_at "hp"); (case' l19 => wtm_at "ln"); (case' k19 => intro _ _ _ _ _))
  | ((with_reducible refine' g_rep ?h120 ?h220 ?h320 ?l20 ?k20); (case' h120 => wtm_at "hp"); (case' h220 => wtm_at "ln"); (case' h320 => wtm_at "ln"); (case' l20 => wtm_at "ln"); (case' k20 => intro _ _ _ _ _))
  | ((with_reducible refine' g_append ?h21 ?l21 ?k21); (case' h21 => wtm_at "hp"); (case' l21 => wtm_at "ln"); (case' k21 => intro _ _ _))
  | ((with_reducible refine' g_kBM ?h22 ?k22); (case' h22 => wtm_at "sl"))
  | ((with_reducible refine' g_kBM0 ?h23 ?k23); (case' h23 => wtm_at "sl"))
  | ((with_reducible refine' g_kL ?h24 ?k24); (case' h24 => wtm_at "sl"))
  | ((with_reducible refine' g_kR1 ?h125 ?h225 ?k25); (case' h125 => wtm_at "ln"); (case' h225 => wtm_at "ln"))
  | ((with_reducible refine' g_kR2 ?h126 ?h226 ?h326 ?h426 ?k26); (case' h126 => wtm_at "ln"); (case' h226 => wtm_at "ln"); (case' h326 => wtm_at "ln"); (case' h426 => wtm_at "ln"))
  | ((with_reducible refine' g_lenL ?h27 ?k27); (case' h27 => wtm_at "sl"))
  | ((with_reducible refine' g_lenT ?h28 ?k28); (case' h28 => wtm_at "st"))
  | ((with_reducible refine' g_listL ?h29 ?k29); (case' h29 => wtm_at "sl"); (case' k29 => intro _ _ _ _ _))
  | ((with_reducible refine' g_tupleL ?h30 ?k30); (case' h30 => wtm_at "sl"); (case' k30 => intro _ _ _ _ _))
  | with_reducible refine' g_max ?_
  | with_reducible refine' g_min ?_
  | with_reducible refine' g_intB ?_
  | with_reducible refine' g_fld ?_
  | with_reducible refine' g_put ?_
  | with_reducible refine' g_dget ?_
  | with_reducible refine' g_isN ?_
  | with_reducible refine' g_notN ?_
  | with_reducible refine' g_ifE ?_
  | with_reducible refine' g_andV ?_
  | with_reducible refine' g_orV ?_
  | with_reducible refine' g_notV ?_
  | with_reducible refine' g_kIf ?_
  | with_reducible refine' g_chain ?_
  | with_reducible refine' g_kCh ?_
  | with_reducible refine' g_sub ?_
  | ((with_reducible refine' g_setI ?h92 ?e92 ?j92 ?k92); (case' h92 => wtm_at "hp"); (case' e92 => first | exact rfl | assumption); (case' j92 => wtm_at "ln"); (case' k92 => intro _ _ _))
  | ((with_reducible refine' g_setL ?h89 ?i89 ?k89); (case' h89 => wtm_at "hp"); (case' i89 => exact ixE rfl (by wtm_at "ln")); (case' k89 => intro _ _ _))
  | ((with_reducible refine' g_gtup ?h93 ?e93 ?k93); (case' h93 => wtm_at "st"); (case' e93 => exact rfl))
  | with_reducible refine' g_gcons ?_
  | with_reducible refine' g_gnil ?_
  | with_reducible refine' g_par ?_
  | with_reducible refine' g_kPar ?_
  | with_reducible refine' g_meth ?_
  | with_reducible refine' g_bm ?_
  | with_reducible refine' g_bm0 ?_
  | with_reducible refine' g_raise ?_
  | with_reducible refine' g_for ?_
  | with_reducible refine' g_iR1 ?_
  | with_reducible refine' g_iR2 ?_
  | with_reducible refine' g_iL ?_
  | with_reducible refine' g_lc ?_
  | with_reducible refine' g_retN ?_
  | with_reducible refine' g_no (b := false) rfl ?_
  | with_reducible refine' g_yes (b := true) rfl ?_)
local macro_rules | `(tactic| wtm_at "go") => `(tactic| repeat (wtm_at "g1"))
local macro_rules | `(tactic| wtm_at "gs") => `(tactic| repeat ((fail_if_success (with_reducible refine' g_ifE ?_)); wtm_at "g1"))
local macro_rules | `(tactic| wtm_at "gi") => `(tactic| repeat ((fail_if_success (with_reducible refine' g_if ?_)); wtm_at "g1"))
local macro_rules | `(tactic| wtm_at "gr") => `(tactic| repeat ((fail_if_success (with_reducible refine' g_ret ?_)); wtm_at "g1"))
local macro_rules | `(tactic| wtm_at "gq") => `(tactic| repeat ((fail_if_success (with_reducible refine' g_asg ?_)); wtm_at "g1"))
section
variable {P : Program} {w : World} {K : PySem.W.Frag} {mg : Str → Option Value} {base : Heap}
local macro_rules | `(tactic| wtm_at "g1") => `(tactic| first
  | ((with_reducible refine' g_fOwn (by assumption) ?h201 ?k201); (case' h201 => wtm_at "hp"))
  | ((with_reducible refine' g_fKey (by assumption) ?h202 ?k202); (case' h202 => wtm_at "hp"))
  | ((with_reducible refine' g_fMem (by assumption) ?h203 ?k203); (case' h203 => wtm_at "hp"))
  | ((with_reducible refine' g_fPri (by assumption) ?h204 ?k204); (case' h204 => wtm_at "hp"))
  | ((with_reducible refine' g_fAwa (by assumption) ?h205 ?k205); (case' h205 => wtm_at "hp"))
  | ((with_reducible refine' g_pAwa (by assumption) ?h206 ?k206); (case' h206 => wtm_at "hp"); (case' k206 => intro _ _ _))
  | ((with_reducible refine' g_kMeth ?h207 ?l207 ?k207); (case' h207 => wtm_at "hp"); (case' l207 => exact rfl)))

/-- write: the steps up to a cut -/
def spWrite (T : Tx K mg) : Sp := fun vs H Q _ => ∃ (p pm pp b : Addr) (μ : Mt) (us : List V) (chs : List (Nat × Int)) (cut : Option Nat), vs = [.ref p, .ref b, cutO cut] ∧ MetAt K T.C_Meter H p pm pp μ ∧ Any μ.cells ∧ SqL K H b us ∧ DpAll K H us ((chs.map chD).map stD) ∧ (∀ c ∈ chs, c.1 < 10) ∧
  ∀ H', Mx [p, pm] H H' → MetAt K T.C_Meter H' p pm pp (writeM μ chs cut).2 → Q (leftV (writeM μ chs cut).1) H'
theorem cut_zero {c : Option Nat} (h : decide (cutO c = V.int 0) = true) : c = some 0 := by
  cases c with
  | none => simp [cutO] at h
  | some k => simp [cutO] at h; simp [h]
theorem cut_pos {c : Option Nat} (h : decide (cutO c = V.int 0) = false) : c ≠ some 0 := by
  rintro rfl
  simp [cutO] at h
theorem scal_cut (c : Option Nat) : scal (cutO c) (.int 0) = true := by cases c <;> rfl
theorem scal_left (c : Option (Option Nat)) : scal (leftV c) (.int (-1)) = true := by cases c with
  | none => rfl
  | some c => cases c <;> rfl
/-- owed -/
theorem last_at {vs : List V} {ss : List (Int × Int)} {H : Hp} (d : DpAll K H vs (ss.map stD)) (hn : ss ≠ []) : ∃ v, atI vs (-1) = some v ∧ ∃ s, ss.getLast? = some s ∧ Dp K H v (stD s) := by
  have hl := d.len
  rw [List.length_map] at hl
  have h0 : ss.length ≠ 0 := fun z => hn (List.length_eq_zero_iff.mp z)
  obtain ⟨s, hs⟩ : ∃ s, ss[ss.length - 1]? = some s := ⟨_, List.getElem?_eq_getElem (by omega)⟩
  obtain ⟨v, hv, hd⟩ := d.get (i := ss.length - 1) (d := stD s) (by rw [List.getElem?_map, hs]; rfl)
  refine ⟨v, ?_, s, by rw [List.getLast?_eq_getElem?]; exact hs, hd⟩
  unfold atI ixN
  rw [if_neg (by omega), if_pos (by omega)]
  show vs[(-1 + (vs.length : Int)).toNat]? = some v
  rw [show (-1 + (vs.length : Int)).toNat = ss.length - 1 by omega]
  exact hv
def spOwed (T : Tx K mg) : Sp := fun vs H Q _ => ∃ (p pm pp : Addr) (μ : Mt), vs = [.ref p] ∧ MetAt K T.C_Meter H p pm pp μ ∧ Any μ.cells ∧
  match owed μ with
  | none => ∀ H', Mx [] H H' → Q .non H'
  | some s => ∀ l H', H l = none → Mx [] H H' → H' l = some (.tup [.int s.1, .int s.2]) → Q (.ref l) H'
/-- print_owed -/
def spPrintOwed (T : Tx K mg) : Sp := fun vs H Q _ => ∃ (p pm pp : Addr) (μ : Mt) (cut : Option Nat), vs = [.ref p, cutO cut] ∧ MetAt K T.C_Meter H p pm pp μ ∧ Any μ.cells ∧ μ.stamps.length < 1000 ∧
  ∀ H', Mx [p, pp] H H' → MetAt K T.C_Meter H' p pm pp (printM μ cut).2 → Q (.bl (printM μ cut).1) H'
end
end Fk
namespace Fk
open PySem PySem.Spec PyProof.Rows L2
local macro_rules | `(tactic| wtm_at "ln") => `(tactic| first
  | omega
  | (simp only [List.length_cons, List.length_nil, List.length_map, List.length_append, List.length_replicate, List.length_take, List.length_drop, List.length_set]; omega)
  | (with_unfolding_all exact (by decide)))
local macro_rules | `(tactic| wtm_at "ar") => `(tactic| first
  | ((with_reducible show CMulW _ _); (refine' mulS ?_ ?_ <;> omega))
  | ((with_reducible show CDivW _ _); (refine' divS ?_ ?_ <;> omega))
  | ((with_reducible show CPow _ _); exact ⟨by decide, by decide, by decide⟩)
  | (show (0 : Int) < _; omega)
  | (with_unfolding_all exact (by decide)))
local macro_rules | `(tactic| wtm_at "at") => `(tactic| first
  | assumption
  | (refine' cl_atE ?e80 ?h80; (case' e80 => first | exact rfl | assumption); (case' h80 => wtm_at "ln"))
  | exact rfl)
local macro_rules | `(tactic| wtm_at "fr") => `(tactic| first
  | assumption
  | ((with_reducible refine' Mx.free0 ?m99 ?h99); (case' h99 => assumption); (case' m99 => wtm_at "mo")))
local macro_rules | `(tactic| wtm_at "hp") => `(tactic| first
  | assumption
  | ((with_reducible refine' Mx.get0 ?m1 ?h1); (case' m1 => assumption); (case' h1 => wtm_at "hp"))
  | ((with_reducible refine' Mx.get ?m2 ?n2 ?h2); (case' m2 => assumption); (case' n2 => wtm_at "nin"); (case' h2 => wtm_at "hp")))
local macro_rules | `(tactic| wtm_at "sl") => `(tactic| first
  | assumption
  | ((with_reducible refine' Mx.sqL0 ?m96 ?h96); (case' h96 => assumption); (case' m96 => wtm_at "mo"))
  | (refine' SqL.of ?h3; (case' h3 => wtm_at "hp"))
  | ((with_reducible refine' Mx.sqL0 ?m4 ?h4); (case' m4 => assumption); (case' h4 => wtm_at "sl"))
  | ((with_reducible refine' Mx.sqL ?m5 ?n5 ?h5); (case' m5 => assumption); (case' n5 => wtm_at "nin"); (case' h5 => wtm_at "sl")))
local macro_rules | `(tactic| wtm_at "st") => `(tactic| first
  | assumption
  | ((with_reducible refine' Mx.sqT0 ?m97 ?h97); (case' h97 => assumption); (case' m97 => wtm_at "mo"))
  | (refine' SqT.of ?h6; (case' h6 => wtm_at "hp"))
  | ((with_reducible refine' Mx.sqT0 ?m7 ?h7); (case' m7 => assumption); (case' h7 => wtm_at "st"))
  | ((with_reducible refine' Mx.sqT ?m8 ?n8 ?h8); (case' m8 => assumption); (case' n8 => wtm_at "nin"); (case' h8 => wtm_at "st")))
local macro_rules | `(tactic| wtm_at "mx") => `(tactic| first
  | assumption
  | exact Mx.refl
  | ((with_reducible refine' Mx.of0 ?h9); (case' h9 => assumption))
  | ((with_reducible refine' Mx.trans ?h10 ?m10); (case' m10 => first | assumption | ((with_reducible refine' Mx.of0 ?q10); (case' q10 => assumption))); (case' h10 => wtm_at "mx")))
local macro_rules | `(tactic| wtm_at "mo") => `(tactic| first
  | wtm_at "mx"
  | ((with_reducible refine' Mx.own ?m90 ?f90 ?k90); (case' k90 => assumption); (case' f90 => wtm_at "fr"); (case' m90 => wtm_at "mo"))
  | ((with_reducible refine' Mx.trans ?h91 ?m91); (case' m91 => first | assumption | ((with_reducible refine' Mx.of0 ?q91); (case' q91 => assumption))); (case' h91 => wtm_at "mo")))
local macro_rules | `(tactic| wtm_at "ne") => `(tactic| first
  | assumption
  | exact Ne.symm (by assumption)
  | ((with_reducible refine' ne_of_none ?x94 ?y94); (case' y94 => assumption); (case' x94 => wtm_at "hp"))
  | ((with_reducible refine' Ne.symm (ne_of_none ?x95 ?y95)); (case' y95 => assumption); (case' x95 => wtm_at "hp")))
local macro_rules | `(tactic| wtm_at "nin") => `(tactic| first
  | assumption
  | exact List.not_mem_nil
  | ((with_reducible refine' List.not_mem_cons_of_ne_of_not_mem ?h98 ?t98); (case' h98 => wtm_at "ne"); (case' t98 => wtm_at "nin")))
local macro_rules | `(tactic| wtm_at "g1") => `(tactic| first
  | ((with_reducible refine' g_var ?h11 ?k11); (case' h11 => exact rfl))
  | with_reducible refine' g_c ?_
  | with_reducible refine' g_op ?_
  | with_reducible refine' g_I0 ?_
  | ((with_reducible refine' g_I ?c12 ?k12); (case' c12 => wtm_at "ar"))
  | with_reducible refine' g_cons ?_
  | with_reducible refine' g_nil ?_
  | with_reducible refine' g_seq ?_
  | with_reducible refine' g_asg ?_
  | with_reducible refine' g_name ?_
  | with_reducible refine' g_ret ?_
  | with_reducible refine' g_if ?_
  | with_reducible refine' g_test ?_
  | with_reducible refine' g_tB ?_
  | with_reducible refine' g_bl ?_
  | ((with_reducible refine' g_eq ?h13 ?k13); (case' h13 => exact rfl))
  | ((with_reducible refine' g_ne ?h14 ?k14); (case' h14 => exact rfl))
  | with_reducible refine' g_CB ?_
  | with_reducible refine' g_call ?_
  | with_reducible refine' g_drop ?_
  | with_reducible refine' g_next ?_
  | with_reducible refine' g_not ?_
  | with_reducible refine' g_and ?_
  | with_reducible refine' g_or ?_
  | with_reducible refine' g_un ?_
  | with_reducible refine' g_U ?_
  | with_reducible refine' g_tup ?_
  | with_reducible refine' g_lst ?_
  | ((with_reducible refine' g_kNew ?h15 ?k15); (case' h15 => wtm_at "ln"); (case' k15 => intro _ _ _ _ _))
  | ((with_reducible refine' g_ixL ?h16 ?a16 ?k16); (case' h16 => wtm_at "sl"); (case' a16 => wtm_at "at"))
  | ((with_reducible refine' g_ixT ?h17 ?a17 ?k17); (case' h17 => wtm_at "st"); (case' a17 => wtm_at "at"))
  | with_reducible refine' g_slice ?_
  | with_reducible refine' g_part ?_
  | with_reducible refine' g_kPart ?_
  | with_reducible refine' g_noPart ?_
  | ((with_reducible refine' g_slL ?h18 ?k18); (case' h18 => wtm_at "sl"); (case' k18 => intro _ _ _ _ _))
  | ((with_reducible refine' g_cat ?h119 ?h219 ?l19 ?k19); (case' h119 => wtm_at "hp"); (case' h219 => wtm_at "hp"); (case' l19 => wtm_at "ln"); (case' k19 => intro _ _ _ _ _))
  | ((with_reducible refine' g_rep ?h120 ?h220 ?h320 ?l20 ?k20); (case' h120 => wtm_at "hp"); (case' h220 => wtm_at "ln"); (case' h320 => wtm_at "ln"); (case' l20 => wtm_at "ln"); (case' k20 => intro _ _ _ _ _))
  | ((with_reducible refine' g_append ?h21 ?l21 ?k21); (case' h21 => wtm_at "hp"); (case' l21 => wtm_at "ln"); (case' k21 => intro _ _ _))
  | ((with_reducible refine' g_kBM ?h22 ?k22); (case' h22 => wtm_at "sl"))
  | ((with_reducible refine' g_kBM0 ?h23 ?k23); (case' h23 => wtm_at "sl"))
  | ((with_reducible refine' g_kL ?h24 ?k24); (case' h24 => wtm_at "sl"))
  | ((with_reducible refine' g_kR1 ?h125 ?h225 ?k25); (case' h125 => wtm_at "ln"); (case' h225 => wtm_at "ln"))
  | ((with_reducible refine' g_kR2 ?h126 ?h226 ?h326 ?h426 ?k26); (case' h126 => wtm_at "ln"); (case' h226 => wtm_at "ln"); (case' h326 => wtm_at "ln"); (case' h426 => wtm_at "ln"))
  | ((with_reducible refine' g_lenL ?h27 ?k27); (case' h27 => wtm_at "sl"))
  | ((with_reducible refine' g_lenT ?h28 ?k28); (case' h28 => wtm_at "st"))
  | ((with_reducible refine' g_listL ?h29 ?k29); (case' h29 => wtm_at "sl"); (case' k29 => intro _ _ _ _ _))
  | ((with_reducible refine' g_tupleL ?h30 ?k30); (case' h30 => wtm_at "sl"); (case' k30 => intro _ _ _ _ _))
  | with_reducible refine' g_max ?_
  | with_reducible refine' g_min ?_
  | with_reducible refine' g_intB ?_
  | with_reducible refine' g_fld ?_
  | with_reducible refine' g_put ?_
  | with_reducible refine' g_dget ?_
  | with_reducible refine' g_isN ?_
  | with_reducible refine' g_notN ?_
  | with_reducible refine' g_ifE ?_
  | with_reducible refine' g_andV ?_
  | with_reducible refine' g_orV ?_
  | with_reducible refine' g_notV ?_
  | with_reducible refine' g_kIf ?_
  | with_reducible refine' g_chain ?_
  | with_reducible refine' g_kCh ?_
  | with_reducible refine' g_sub ?_
  | ((with_reducible refine' g_setI ?h92 ?e92 ?j92 ?k92); (case' h92 => wtm_at "hp"); (case' e92 => first | exact rfl | assumption); (case' j92 => wtm_at "ln"); (case' k92 => intro _ _ _))
  | ((with_reducible refine' g_setL ?h89 ?i89 ?k89); (case' h89 => wtm_at "hp"); (case' i89 => exact ixE rfl (by wtm_at "ln")); (case' k89 => intro _ _ _))
  | ((with_reducible refine' g_gtup ?h93 ?e93 ?k93); (case' h93 => wtm_at "st"); (case' e93 => exact rfl))
  | with_reducible refine' g_gcons ?_
  | with_reducible refine' g_gnil ?_
  | with_reducible refine' g_par ?_
  | with_reducible refine' g_kPar ?_
  | with_reducible refine' g_meth ?_
  | with_reducible refine' g_bm ?_
  | with_reducible refine' g_bm0 ?_
  | with_reducible refine' g_raise ?_
  | with_reducible refine' g_for ?_
  | with_reducible refine' g_iR1 ?_
  | with_reducible refine' g_iR2 ?_
  | with_reducible refine' g_iL ?_
  | with_reducible refine' g_lc ?_
  | with_reducible refine' g_retN ?_
  | with_reducible refine' g_no (b := false) rfl ?_
  | with_reducible refine' g_yes (b := true) rfl ?_)
local macro_rules | `(tactic| wtm_at "go") => `(tactic| repeat (wtm_at "g1"))
local macro_rules | `(tactic| wtm_at "gs") => `(tactic| repeat ((fail_if_success (with_reducible refine' g_ifE ?_)); wtm_at "g1"))
local macro_rules | `(tactic| wtm_at "gi") => `(tactic| repeat ((fail_if_success (with_reducible refine' g_if ?_)); wtm_at "g1"))
local macro_rules | `(tactic| wtm_at "gr") => `(tactic| repeat ((fail_if_success (with_reducible refine' g_ret ?_)); wtm_at "g1"))
local macro_rules | `(tactic| wtm_at "gq") => `(tactic| repeat ((fail_if_success (with_reducible refine' g_asg ?_)); wtm_at "g1"))
/-! ### the plain law of a bank written -/
theorem cl_set_ne {cs : List Int} {i j : Nat} {v : Int} (h : j ≠ i) : cl (cs.set i v) j = cl cs j := by
  unfold cl
  rw [List.getD_eq_getElem?_getD, List.getD_eq_getElem?_getD, List.getElem?_set_ne (Ne.symm h)]
theorem cl_set_eq {cs : List Int} {i : Nat} {v : Int} (h : i < cs.length) : cl (cs.set i v) i = v := by
  unfold cl
  rw [List.getD_eq_getElem?_getD, List.getElem?_set_self h]
  rfl
theorem cl_map_range {n i : Nat} {f : Nat → Int} (h : i < n) : cl ((List.range n).map f) i = f i := by
  unfold cl
  rw [List.getD_eq_getElem?_getD, List.getElem?_map, List.getElem?_range h]
  rfl
theorem ext_cl {xs ys : List Int} (h : xs.length = ys.length) (e : ∀ i, i < xs.length → cl xs i = cl ys i) : xs = ys := by
  apply List.ext_getElem h
  intro i h1 h2
  have := e i h1
  unfold cl at this
  rw [List.getD_eq_getElem?_getD, List.getD_eq_getElem?_getD, List.getElem?_eq_getElem h1, List.getElem?_eq_getElem h2] at this
  exact this
theorem cl_take {cs : List Int} {n i : Nat} (h : i < n) : cl (cs.take n) i = cl cs i := by
  unfold cl
  rw [List.getD_eq_getElem?_getD, List.getD_eq_getElem?_getD, List.getElem?_take_of_lt h]
theorem cl_drop {cs : List Int} {n i : Nat} : cl (cs.drop n) i = cl cs (n + i) := by
  unfold cl
  rw [List.getD_eq_getElem?_getD, List.getD_eq_getElem?_getD, List.getElem?_drop]
theorem cl_bank {cs : List Int} {i : Nat} (h : i < 10) : cl (bank cs) i = cl cs (stand cs * 10 + i) := by
  unfold bank
  rw [cl_take h, cl_drop]
theorem stand_whole {cs : List Int} (h : Any cs) : cl cs (stand cs * 10) = 1 := by
  unfold stand
  split
  · rename_i z; simpa using z.1
  · rename_i z
    rcases h.2 with e | e
    · exact Classical.byContradiction fun q => z ⟨e, fun y => q (by simpa using y.1)⟩
    · simpa using e
theorem other_stand (cs : List Int) : (stand cs = 0 ∧ other cs = 10) ∨ (stand cs = 1 ∧ other cs = 0) := by
  have := stand_le cs
  unfold other
  omega
/-- what the steps leave at a cell: by the steps done -/
theorem wr_other {cs : List Int} {chs : List (Nat × Int)} {k j : Nat} (h : ∀ s ∈ stepsOf cs chs, s.1 ≠ (j : Int)) : cl (wr cs (stepsOf cs chs) k) j = cl cs j := by
  induction k with
  | zero => rfl
  | succ k ih =>
    cases e : (stepsOf cs chs)[k]? with
    | none =>
      have : wr cs (stepsOf cs chs) (k + 1) = wr cs (stepsOf cs chs) k := by
        have hk := List.getElem?_eq_none_iff.mp e
        unfold wr
        rw [List.take_of_length_le hk, List.take_of_length_le (by omega)]
      rw [this, ih]
    | some s =>
      rw [wr_succ e, cl_set_ne ?_, ih]
      have := h s (List.mem_of_getElem? e)
      obtain ⟨i, ei, _⟩ := stepsOf_ix (List.mem_of_getElem? e)
      omega
theorem steps_in {cs : List Int} {chs : List (Nat × Int)} {s : Int × Int} (h : s ∈ stepsOf cs chs) : (other cs : Int) ≤ s.1 ∧ s.1 < other cs + 10 := by
  simp only [stepsOf, List.cons_append, List.mem_cons, List.mem_append, List.mem_map, List.mem_range, List.not_mem_nil, or_false] at h
  rcases h with h | ⟨k, hk, h⟩ | h
  · rw [h]; simp; omega
  · rw [← h]; simp; omega
  · rw [h]; simp; omega
theorem wr_stand {cs : List Int} {chs : List (Nat × Int)} {k i : Nat} (h : i < 10) : cl (wr cs (stepsOf cs chs) k) (stand cs * 10 + i) = cl cs (stand cs * 10 + i) := by
  refine wr_other fun s hs => ?_
  have := steps_in hs
  rcases other_stand cs with ⟨a, b⟩ | ⟨a, b⟩ <;> rw [a] <;> rw [b] at this <;> simp at * <;> omega
theorem any_wr {cs : List Int} {chs : List (Nat × Int)} {k : Nat} (h : Any cs) : Any (wr cs (stepsOf cs chs) k) := by
  have hw := stand_whole h
  have := wr_stand (cs := cs) (chs := chs) (k := k) (i := 0) (by omega)
  simp only [Nat.add_zero] at this
  refine ⟨by rw [wr_len]; exact h.1, ?_⟩
  rcases other_stand cs with ⟨a, b⟩ | ⟨a, b⟩ <;> rw [a] at this hw <;> simp at this hw
  · exact .inl (this.trans hw)
  · exact .inr (this.trans hw)
/-- the first k steps: the other bank's whole is 0, then its cells one by one -/
theorem wr_do {cs : List Int} {chs : List (Nat × Int)} (hl : cs.length = 20) : ∀ k, k < 10 → ∀ i, i < 10 → cl (wr cs (stepsOf cs chs) (k + 1)) (other cs + i) = if i = 0 then 0 else if i ≤ k then cl (news cs chs) i else cl cs (other cs + i) := by
  have ho := other_le cs
  intro k
  induction k with
  | zero =>
    intro _ i hi
    have e : (stepsOf cs chs)[0]? = some ((other cs : Int), 0) := rfl
    rw [wr_succ e]
    show cl ((wr cs (stepsOf cs chs) 0).set ((other cs : Int).toNat) 0) _ = _
    by_cases h : i = 0
    · subst h
      simp only [Int.toNat_natCast, Nat.add_zero, if_true]
      rw [cl_set_eq]
      rw [wr_len]; omega
    · rw [if_neg h, if_neg (by omega), cl_set_ne (by simp; omega)]
      rfl
  | succ k ih =>
    intro hk i hi
    have e : (stepsOf cs chs)[k + 1]? = some ((other cs : Int) + (1 + (k : Int)), cl (news cs chs) (k + 1)) := by
      unfold stepsOf
      rw [List.cons_append, List.getElem?_cons_succ, List.getElem?_append_left (by simp; omega)]
      simp [show k < 9 by omega]
    rw [wr_succ e]
    show cl ((wr cs (stepsOf cs chs) (k + 1)).set (((other cs : Int) + (1 + (k : Int))).toNat) (cl (news cs chs) (k + 1))) _ = _
    have et : ((other cs : Int) + (1 + (k : Int))).toNat = other cs + (k + 1) := by omega
    rw [et]
    by_cases h : i = k + 1
    · subst h
      rw [cl_set_eq (by rw [wr_len]; omega), if_neg (by omega), if_pos (by omega)]
    · rw [cl_set_ne (by omega), ih (by omega) i hi]
      by_cases h0 : i = 0
      · rw [if_pos h0, if_pos h0]
      · rw [if_neg h0, if_neg h0]
        by_cases h1 : i ≤ k
        · rw [if_pos h1, if_pos (by omega)]
        · rw [if_neg h1, if_neg (by omega)]
theorem wr_all {cs : List Int} {chs : List (Nat × Int)} (hl : cs.length = 20) {i : Nat} (hi : i < 10) : cl (wr cs (stepsOf cs chs) 11) (other cs + i) = if i = 0 then 1 else cl (news cs chs) i := by
  have ho := other_le cs
  have e : (stepsOf cs chs)[10]? = some ((other cs : Int), 1) := rfl
  rw [wr_succ e]
  show cl ((wr cs (stepsOf cs chs) 10).set ((other cs : Int).toNat) 1) _ = _
  simp only [Int.toNat_natCast]
  by_cases h : i = 0
  · subst h
    simp only [Nat.add_zero, if_true]
    rw [cl_set_eq]
    rw [wr_len]; omega
  · rw [if_neg h, cl_set_ne (by omega), wr_do hl 9 (by omega) i hi, if_neg h, if_pos (by omega)]
/-- changes are told of places from 2 on -/
def Chs (chs : List (Nat × Int)) : Prop := ∀ c ∈ chs, 2 ≤ c.1 ∧ c.1 < 10
theorem foldl_cl {chs : List (Nat × Int)} : ∀ {b : List Int} {i : Nat}, (∀ c ∈ chs, c.1 ≠ i) → cl (chs.foldl (fun b c => b.set c.1 c.2) b) i = cl b i := by
  induction chs with
  | nil => intros; rfl
  | cons c r ih =>
    intro b i h
    rw [List.foldl_cons, ih fun c hc => h c (List.mem_cons_of_mem _ hc), cl_set_ne (Ne.symm (h c List.mem_cons_self))]
theorem news_0 {cs : List Int} {chs : List (Nat × Int)} (hA : Any cs) (hc : Chs chs) : cl (news cs chs) 0 = 1 := by
  unfold news
  rw [foldl_cl (fun c h => by have := hc c h; omega), cl_set_ne (by omega), cl_bank (by omega)]
  exact stand_whole hA
theorem news_1 {cs : List Int} {chs : List (Nat × Int)} (hA : Any cs) (hc : Chs chs) : cl (news cs chs) 1 = cl (bank cs) 1 + 1 := by
  unfold news
  rw [foldl_cl (fun c h => by have := hc c h; omega), cl_set_eq (by rw [bank_len hA.1]; omega)]
/-- behind all eleven steps the other bank stands, with the news -/
theorem stand_wr {cs : List Int} {chs : List (Nat × Int)} (hA : Any cs) (hc : Chs chs) : stand (wr cs (stepsOf cs chs) 11) = 1 - stand cs := by
  have hw := stand_whole hA
  have w0 := wr_all (chs := chs) hA.1 (i := 0) (by omega)
  have w1 := wr_all (chs := chs) hA.1 (i := 1) (by omega)
  have s0 := wr_stand (cs := cs) (chs := chs) (k := 11) (i := 0) (by omega)
  have s1 := wr_stand (cs := cs) (chs := chs) (k := 11) (i := 1) (by omega)
  have n1 := news_1 hA hc
  rw [cl_bank (by omega)] at n1
  simp only [Nat.add_zero, if_true] at w0 s0
  rw [if_neg (by omega), n1] at w1
  rcases other_stand cs with ⟨a, b⟩ | ⟨a, b⟩ <;> simp only [a, b, Nat.zero_mul, Nat.one_mul, Nat.zero_add, Nat.reduceAdd, Nat.reduceSub] at w0 w1 s0 s1 hw ⊢
  · unfold stand
    rw [if_neg]
    intro z
    exact z.2 ⟨w0, by omega⟩
  · unfold stand
    rw [if_pos]
    exact ⟨w0, fun z => by omega⟩
theorem bank_wr {cs : List Int} {chs : List (Nat × Int)} (hA : Any cs) (hc : Chs chs) : bank (wr cs (stepsOf cs chs) 11) = news cs chs := by
  have hl : (wr cs (stepsOf cs chs) 11).length = 20 := by rw [wr_len]; exact hA.1
  refine ext_cl (by rw [bank_len hl, news_len hA.1]) fun i hi => ?_
  rw [bank_len hl] at hi
  rw [cl_bank hi, stand_wr hA hc]
  have : (1 - stand cs) * 10 = other cs := rfl
  rw [this, wr_all hA.1 hi]
  by_cases h : i = 0
  · rw [if_pos h, h, news_0 hA hc]
  · rw [if_neg h]
/-- cut off ahead of the last step, the bank that stood stands -/
theorem stand_wr_cut {cs : List Int} {chs : List (Nat × Int)} (hA : Any cs) {k : Nat} (hk : k < 11) : stand (wr cs (stepsOf cs chs) k) = stand cs := by
  cases k with
  | zero => rfl
  | succ k =>
    have hw := stand_whole hA
    have w0 := wr_do (chs := chs) hA.1 k (by omega) 0 (by omega)
    have s0 := wr_stand (cs := cs) (chs := chs) (k := k + 1) (i := 0) (by omega)
    simp only [Nat.add_zero, if_true] at w0 s0
    rcases other_stand cs with ⟨a, b⟩ | ⟨a, b⟩ <;> simp only [a, b, Nat.zero_mul, Nat.one_mul, Nat.zero_add, Nat.reduceAdd, Nat.reduceSub] at w0 s0 hw ⊢
    · unfold stand
      rw [if_pos ⟨s0.trans hw, fun z => by rw [w0] at z; exact absurd z.1 (by decide)⟩]
    · unfold stand
      rw [if_neg (fun z => by rw [w0] at z; exact absurd z.1 (by decide))]
theorem bank_wr_cut {cs : List Int} {chs : List (Nat × Int)} (hA : Any cs) {k : Nat} (hk : k < 11) : bank (wr cs (stepsOf cs chs) k) = bank cs := by
  have hl : (wr cs (stepsOf cs chs) k).length = 20 := by rw [wr_len]; exact hA.1
  refine ext_cl (by rw [bank_len hl, bank_len hA.1]) fun i hi => ?_
  rw [bank_len hl] at hi
  rw [cl_bank hi, cl_bank hi, stand_wr_cut hA hk, wr_stand hi]
end Fk
namespace Fk
open PySem PySem.Spec PyProof.Rows L2
local macro_rules | `(tactic| wtm_at "ln") => `(tactic| first
  | omega
  | (simp only [List.length_cons, List.length_nil, List.length_map, List.length_append, List.length_replicate, List.length_take, List.length_drop, List.length_set]; omega)
  | (with_unfolding_all exact (by decide)))
local macro_rules | `(tactic| wtm_at "ar") => `(tactic| first
  | ((with_reducible show CMulW _ _); (refine' mulS ?_ ?_ <;> omega))
  | ((with_reducible show CDivW _ _); (refine' divS ?_ ?_ <;> omega))
  | ((with_reducible show CPow _ _); exact ⟨by decide, by decide, by decide⟩)
  | (show (0 : Int) < _; omega)
  | (with_unfolding_all exact (by decide)))
local macro_rules | `(tactic| wtm_at "at") => `(tactic| first
  | assumption
  | (refine' cl_atE ?e80 ?h80; (case' e80 => first | exact rfl | assumption); (case' h80 => wtm_at "ln"))
  | exact rfl)
local macro_rules | `(tactic| wtm_at "fr") => `(tactic| first
  | assumption
  | ((with_reducible refine' Mx.free0 ?m99 ?h99); (case' h99 => assumption); (case' m99 => wtm_at "mo")))
local macro_rules | `(tactic| wtm_at "hp") => `(tactic| first
  | assumption
  | ((with_reducible refine' Mx.get0 ?m1 ?h1); (case' m1 => assumption); (case' h1 => wtm_at "hp"))
  | ((with_reducible refine' Mx.get ?m2 ?n2 ?h2); (case' m2 => assumption); (case' n2 => wtm_at "nin"); (case' h2 => wtm_at "hp")))
local macro_rules | `(tactic| wtm_at "sl") => `(tactic| first
  | assumption
  | ((with_reducible refine' Mx.sqL0 ?m96 ?h96); (case' h96 => assumption); (case' m96 => wtm_at "mo"))
  | (refine' SqL.of ?h3; (case' h3 => wtm_at "hp"))
  | ((with_reducible refine' Mx.sqL0 ?m4 ?h4); (case' m4 => assumption); (case' h4 => wtm_at "sl"))
  | ((with_reducible refine' Mx.sqL ?m5 ?n5 ?h5); (case' m5 => assumption); (case' n5 => wtm_at "nin"); (case' h5 => wtm_at "sl")))
local macro_rules | `(tactic| wtm_at "st") => `(tactic| first
  | assumption
  | ((with_reducible refine' Mx.sqT0 ?m97 ?h97); (case' h97 => assumption); (case' m97 => wtm_at "mo"))
  | (refine' SqT.of ?h6; (case' h6 => wtm_at "hp"))
  | ((with_reducible refine' Mx.sqT0 ?m7 ?h7); (case' m7 => assumption); (case' h7 => wtm_at "st"))
  | ((with_reducible refine' Mx.sqT ?m8 ?n8 ?h8); (case' m8 => assumption); (case' n8 => wtm_at "nin"); (case' h8 => wtm_at "st")))
local macro_rules | `(tactic| wtm_at "mx") => `(tactic| first
  | assumption
  | exact Mx.refl
  | ((with_reducible refine' Mx.of0 ?h9); (case' h9 => assumption))
  | ((with_reducible refine' Mx.trans ?h10 ?m10); (case' m10 => first | assumption | ((with_reducible refine' Mx.of0 ?q10); (case' q10 => assumption))); (case' h10 => wtm_at "mx")))
local macro_rules | `(tactic| wtm_at "mo") => `(tactic| first
  | wtm_at "mx"
  | ((with_reducible refine' Mx.own ?m90 ?f90 ?k90); (case' k90 => assumption); (case' f90 => wtm_at "fr"); (case' m90 => wtm_at "mo"))
  | ((with_reducible refine' Mx.trans ?h91 ?m91); (case' m91 => first | assumption | ((with_reducible refine' Mx.of0 ?q91); (case' q91 => assumption))); (case' h91 => wtm_at "mo")))
local macro_rules | `(tactic| wtm_at "ne") => `(tactic| first
  | assumption
  | exact Ne.symm (by assumption)
  | ((with_reducible refine' ne_of_none ?x94 ?y94); (case' y94 => assumption); (case' x94 => wtm_at "hp"))
  | ((with_reducible refine' Ne.symm (ne_of_none ?x95 ?y95)); (case' y95 => assumption); (case' x95 => wtm_at "hp")))
local macro_rules | `(tactic| wtm_at "nin") => `(tactic| first
  | assumption
  | exact List.not_mem_nil
  | ((with_reducible refine' List.not_mem_cons_of_ne_of_not_mem ?h98 ?t98); (case' h98 => wtm_at "ne"); (case' t98 => wtm_at "nin")))
local macro_rules | `(tactic| wtm_at "g1") => `(tactic| first
  | ((with_reducible refine' g_var ?h11 ?k11); (case' h11 => exact rfl))
  | with_reducible refine' g_c ?_
  | with_reducible refine' g_op ?_
  | with_reducible refine' g_I0 ?_
  | ((with_reducible refine' g_I ?c12 ?k12); (case' c12 => wtm_at "ar"))
  | with_reducible refine' g_cons ?_
  | with_reducible refine' g_nil ?_
  | with_reducible refine' g_seq ?_
  | with_reducible refine' g_asg ?_
  | with_reducible refine' g_name ?_
  | with_reducible refine' g_ret ?_
  | with_reducible refine' g_if ?_
  | with_reducible refine' g_test ?_
  | with_reducible refine' g_tB ?_
  | with_reducible refine' g_bl ?_
  | ((with_reducible refine' g_eq ?h13 ?k13); (case' h13 => exact rfl))
  | ((with_reducible refine' g_ne ?h14 ?k14); (case' h14 => exact rfl))
  | with_reducible refine' g_CB ?_
  | with_reducible refine' g_call ?_
  | with_reducible refine' g_drop ?_
  | with_reducible refine' g_next ?_
  | with_reducible refine' g_not ?_
  | with_reducible refine' g_and ?_
  | with_reducible refine' g_or ?_
  | with_reducible refine' g_un ?_
  | with_reducible refine' g_U ?_
  | with_reducible refine' g_tup ?_
  | with_reducible refine' g_lst ?_
  | ((with_reducible refine' g_kNew ?h15 ?k15); (case' h15 => wtm_at "ln"); (case' k15 => intro _ _ _ _ _))
  | ((with_reducible refine' g_ixL ?h16 ?a16 ?k16); (case' h16 => wtm_at "sl"); (case' a16 => wtm_at "at"))
  | ((with_reducible refine' g_ixT ?h17 ?a17 ?k17); (case' h17 => wtm_at "st"); (case' a17 => wtm_at "at"))
  | with_reducible refine' g_slice ?_
  | with_reducible refine' g_part ?_
  | with_reducible refine' g_kPart ?_
  | with_reducible refine' g_noPart ?_
  | ((with_reducible refine' g_slL ?h18 ?k18); (case' h18 => wtm_at "sl"); (case' k18 => intro _ _ _ _ _))
  | ((with_reducible refine' g_cat ?h119 ?h219 ?l19 ?k19); (case' h119 => wtm_at "hp"); (case' h219 => wtm_at "hp"); (case' l19 => wtm_at "ln"); (case' k19 => intro _ _ _ _ _))
  | ((with_reducible refine' g_rep ?h120 ?h220 ?h320 ?l20 ?k20); (case' h120 => wtm_at "hp"); (case' h220 => wtm_at "ln"); (case' h320 => wtm_at "ln"); (case' l20 => wtm_at "ln"); (case' k20 => intro _ _ _ _ _))
  | ((with_reducible refine' g_append ?h21 ?l21 ?k21); (case' h21 => wtm_at "hp"); (case' l21 => wtm_at "ln"); (case' k21 => intro _ _ _))
  | ((with_reducible refine' g_kBM ?h22 ?k22); (case' h22 => wtm_at "sl"))
  | ((with_reducible refine' g_kBM0 ?h23 ?k23); (case' h23 => wtm_at "sl"))
  | ((with_reducible refine' g_kL ?h24 ?k24); (case' h24 => wtm_at "sl"))
  | ((with_reducible refine' g_kR1 ?h125 ?h225 ?k25); (case' h125 => wtm_at "ln"); (case' h225 => wtm_at "ln"))
  | ((with_reducible refine' g_kR2 ?h126 ?h226 ?h326 ?h426 ?k26); (case' h126 => wtm_at "ln"); (case' h226 => wtm_at "ln"); (case' h326 => wtm_at "ln"); (case' h426 => wtm_at "ln"))
  | ((with_reducible refine' g_lenL ?h27 ?k27); (case' h27 => wtm_at "sl"))
  | ((with_reducible refine' g_lenT ?h28 ?k28); (case' h28 => wtm_at "st"))
  | ((with_reducible refine' g_listL ?h29 ?k29); (case' h29 => wtm_at "sl"); (case' k29 => intro _ _ _ _ _))
  | ((with_reducible refine' g_tupleL ?h30 ?k30); (case' h30 => wtm_at "sl"); (case' k30 => intro _ _ _ _ _))
  | with_reducible refine' g_max ?_
  | with_reducible refine' g_min ?_
  | with_reducible refine' g_intB ?_
  | with_reducible refine' g_fld ?_
  | with_reducible refine' g_put ?_
  | with_reducible refine' g_dget ?_
  | with_reducible refine' g_isN ?_
  | with_reducible refine' g_notN ?_
  | with_reducible refine' g_ifE ?_
  | with_reducible refine' g_andV ?_
  | with_reducible refine' g_orV ?_
  | with_reducible refine' g_notV ?_
  | with_reducible refine' g_kIf ?_
  | with_reducible refine' g_chain ?_
  | with_reducible refine' g_kCh ?_
  | with_reducible refine' g_sub ?_
  | ((with_reducible refine' g_setI ?h92 ?e92 ?j92 ?k92); (case' h92 => wtm_at "hp"); (case' e92 => first | exact rfl | assumption); (case' j92 => wtm_at "ln"); (case' k92 => intro _ _ _))
  | ((with_reducible refine' g_setL ?h89 ?i89 ?k89); (case' h89 => wtm_at "hp"); (case' i89 => exact ixE rfl (by wtm_at "ln")); (case' k89 => intro _ _ _))
  | ((with_reducible refine' g_gtup ?h93 ?e93 ?k93); (case' h93 => wtm_at "st"); (case' e93 => exact rfl))
  | with_reducible refine' g_gcons ?_
  | with_reducible refine' g_gnil ?_
  | with_reducible refine' g_par ?_
  | with_reducible refine' g_kPar ?_
  | with_reducible refine' g_meth ?_
  | with_reducible refine' g_bm ?_
  | with_reducible refine' g_bm0 ?_
  | with_reducible refine' g_raise ?_
  | with_reducible refine' g_for ?_
  | with_reducible refine' g_iR1 ?_
  | with_reducible refine' g_iR2 ?_
  | with_reducible refine' g_iL ?_
  | with_reducible refine' g_lc ?_
  | with_reducible refine' g_retN ?_
  | with_reducible refine' g_no (b := false) rfl ?_
  | with_reducible refine' g_yes (b := true) rfl ?_)
local macro_rules | `(tactic| wtm_at "go") => `(tactic| repeat (wtm_at "g1"))
local macro_rules | `(tactic| wtm_at "gs") => `(tactic| repeat ((fail_if_success (with_reducible refine' g_ifE ?_)); wtm_at "g1"))
local macro_rules | `(tactic| wtm_at "gi") => `(tactic| repeat ((fail_if_success (with_reducible refine' g_if ?_)); wtm_at "g1"))
local macro_rules | `(tactic| wtm_at "gr") => `(tactic| repeat ((fail_if_success (with_reducible refine' g_ret ?_)); wtm_at "g1"))
local macro_rules | `(tactic| wtm_at "gq") => `(tactic| repeat ((fail_if_success (with_reducible refine' g_asg ?_)); wtm_at "g1"))
/-! ### deeds -/
inductive Rf where
  | down | up | amount | code | short | bank | number | meter
  deriving DecidableEq
/-- the numbers of the bank that stands are of some size -/
def Sm (μ : Mt) : Prop := μ.num.natAbs < 2 ^ 200 ∧ μ.key.natAbs < 2 ^ 200 ∧ ∀ i, (bk μ i).natAbs < 2 ^ 200
def stampChs (μ : Mt) (a : Int) : List (Nat × Int) := [(2, bk μ 2 + a), (3, bk μ 3 - a), (8, bk μ 8 + 1), (9, a)]
def stampM (μ : Mt) (a : Int) (cut : Option Nat) : PyData × Mt :=
  match writeM μ (stampChs μ a) cut with
  | (none, μ1) => (.none, μ1)
  | (some left, μ1) => if (printM μ1 left).1 = true then (.int (bk μ 8 + 1), (printM μ1 left).2) else (.none, (printM μ1 left).2)
def stampR (μ : Mt) (a : Int) : Option Rf := if μ.up = false then some .down else if amt a = false then some .amount else if bk μ 3 < a then some .short else none
def topChs (μ : Mt) (z : Cd) : List (Nat × Int) := [(3, bk μ 3 + z.a), (4, bk μ 4 + z.a), (5, z.c)]
def topM (μ : Mt) (z : Cd) (cut : Option Nat) : PyData × Mt :=
  match writeM μ (topChs μ z) cut with
  | (none, μ1) => (.none, μ1)
  | (some _, μ1) => (.int z.a, μ1)
def topR (μ : Mt) (z : Cd) : Option Rf := if μ.up = false then some .down else if good μ.key z μ.num (bk μ 5 + 1) 1 = false then some .code else none
def backChs (μ : Mt) (a : Int) : List (Nat × Int) := [(3, bk μ 3 - a), (4, bk μ 4 - a), (6, bk μ 6 + 1), (7, a)]
def lastB (μ : Mt) : PyData := if 0 < bk μ 6 then cdD (mkCd μ.key μ.num (bk μ 6) (bk μ 7) 2) else .none
def backM (μ : Mt) (a : Int) (cut : Option Nat) : PyData × Mt :=
  match writeM μ (backChs μ a) cut with
  | (none, μ1) => (.none, μ1)
  | (some _, μ1) => (lastB μ1, μ1)
def upM (μ : Mt) (cut : Option Nat) : PyData × Mt := if (printM μ cut).1 = true then (.bool true, { (printM μ cut).2 with up := true }) else (.none, (printM μ cut).2)
theorem stampChs_ok (μ : Mt) (a : Int) : Chs (stampChs μ a) := by intro c hc; simp [stampChs] at hc; rcases hc with rfl | rfl | rfl | rfl <;> simp
theorem topChs_ok (μ : Mt) (z : Cd) : Chs (topChs μ z) := by intro c hc; simp [topChs] at hc; rcases hc with rfl | rfl | rfl <;> simp
theorem backChs_ok (μ : Mt) (a : Int) : Chs (backChs μ a) := by intro c hc; simp [backChs] at hc; rcases hc with rfl | rfl | rfl | rfl <;> simp
theorem writeM_any {μ : Mt} {chs : List (Nat × Int)} {cut : Option Nat} (h : Any μ.cells) : Any (writeM μ chs cut).2.cells := by
  unfold writeM
  split
  · split <;> exact any_wr h
  · exact any_wr h
theorem writeM_st {μ : Mt} {chs : List (Nat × Int)} {cut : Option Nat} : (writeM μ chs cut).2.stamps = μ.stamps := by
  unfold writeM
  split
  · split <;> rfl
  · rfl
theorem writeM_cases (μ : Mt) (chs : List (Nat × Int)) (cut : Option Nat) : (∃ k, cut = some k ∧ k < 11 ∧ writeM μ chs cut = (none, { μ with cells := wr μ.cells (stepsOf μ.cells chs) k, up := false })) ∨
    ((∀ k, cut = some k → 11 ≤ k) ∧ writeM μ chs cut = (some (cut.map fun k => k - 11), { μ with cells := wr μ.cells (stepsOf μ.cells chs) 11 })) := by
  cases cut with
  | none => exact .inr ⟨(fun _ h => nomatch h), rfl⟩
  | some k =>
    by_cases h : k < 11
    · exact .inl ⟨k, rfl, h, by simp only [writeM, if_pos h]⟩
    · exact .inr ⟨fun _ e => by cases e; omega, by simp only [writeM, if_neg h, Option.map_some]⟩
theorem bk_wr {μ : Mt} {chs : List (Nat × Int)} (hA : Any μ.cells) (hc : Chs chs) (i : Nat) : bk { μ with cells := wr μ.cells (stepsOf μ.cells chs) 11 } i = cl (news μ.cells chs) i := by
  unfold bk
  rw [bank_wr hA hc]
theorem scal_m1 : scal (V.int (-1)) (V.int (-1)) = true := rfl
section
variable {P : Program} {w : World} {K : PySem.W.Frag} {mg : Str → Option Value} {base : Heap}
def Rf.at (T : Tx K mg) : Rf → Addr
  | .down => T.E_Down
  | .up => T.E_Up
  | .amount => T.E_BadAmount
  | .code => T.E_BadCode
  | .short => T.E_Short
  | .bank => T.E_NoBank
  | .number => T.E_BadNumber
  | .meter => T.E_NoMeter
local macro_rules | `(tactic| wtm_at "g1") => `(tactic| first
  | ((with_reducible refine' g_fOwn (by assumption) ?h201 ?k201); (case' h201 => wtm_at "hp"))
  | ((with_reducible refine' g_fKey (by assumption) ?h202 ?k202); (case' h202 => wtm_at "hp"))
  | ((with_reducible refine' g_fMem (by assumption) ?h203 ?k203); (case' h203 => wtm_at "hp"))
  | ((with_reducible refine' g_fPri (by assumption) ?h204 ?k204); (case' h204 => wtm_at "hp"))
  | ((with_reducible refine' g_fAwa (by assumption) ?h205 ?k205); (case' h205 => wtm_at "hp"))
  | ((with_reducible refine' g_pAwa (by assumption) ?h206 ?k206); (case' h206 => wtm_at "hp"); (case' k206 => intro _ _ _))
  | ((with_reducible refine' g_kMeth ?h207 ?l207 ?k207); (case' h207 => wtm_at "hp"); (case' l207 => exact rfl)))

theorem g_neL {c : Option (Option Nat)} {H : Hp} {Q : VK} (k : Q (.bl (!decide (c = none))) H) : rNe (leftV c) (.int (-1)) H Q := by
  refine g_ne (scal_left c) ?_
  have : decide (leftV c = V.int (-1)) = decide (c = none) := by
    cases c with
    | none => rfl
    | some c => cases c with
      | none => rfl
      | some k =>
        simp [leftV, cutO]
  rw [this]
  exact k
/-- last_back -/
def spLastBack (T : Tx K mg) : Sp := fun vs H Q _ => ∃ (p pm pp : Addr) (μ : Mt), vs = [.ref p] ∧ MetAt K T.C_Meter H p pm pp μ ∧ Any μ.cells ∧ Bd μ.key ∧ Bd μ.num ∧ Bd (bk μ 6) ∧ Bd (bk μ 7) ∧ ∀ v H', Mx [] H H' → Dp K H' v (lastB μ) → Q v H'
/-- stamp -/
def spStamp (T : Tx K mg) : Sp := fun vs H Q E => ∃ (p pm pp : Addr) (μ : Mt) (a : Int) (cut : Option Nat), vs = [.ref p, .int a, cutO cut] ∧ MetAt K T.C_Meter H p pm pp μ ∧ Any μ.cells ∧ μ.stamps.length < 1000 ∧
  (∀ r, stampR μ a = some r → ∀ H', Mx [] H H' → E (.ref (r.at T)) none H') ∧ (stampR μ a = none → ∀ v H', Mx [p, pm, pp] H H' → MetAt K T.C_Meter H' p pm pp (stampM μ a cut).2 → Dp K H' v (stampM μ a cut).1 → Q v H')
/-- top_up -/
def spTopUp (T : Tx K mg) : Sp := fun vs H Q E => ∃ (p pm pp t : Addr) (μ : Mt) (z : Cd) (cut : Option Nat), vs = [.ref p, .ref t, cutO cut] ∧ MetAt K T.C_Meter H p pm pp μ ∧ Any μ.cells ∧ Sm μ ∧ H t = some (.tup z.vs) ∧
  (∀ r, topR μ z = some r → ∀ H', Mx [] H H' → E (.ref (r.at T)) none H') ∧ (topR μ z = none → ∀ v H', Mx [p, pm, pp] H H' → MetAt K T.C_Meter H' p pm pp (topM μ z cut).2 → Dp K H' v (topM μ z cut).1 → Q v H')
/-- give_back -/
def spGiveBack (T : Tx K mg) : Sp := fun vs H Q E => ∃ (p pm pp : Addr) (μ : Mt) (a : Int) (cut : Option Nat), vs = [.ref p, .int a, cutO cut] ∧ MetAt K T.C_Meter H p pm pp μ ∧ Any μ.cells ∧ Sm μ ∧
  (∀ r, stampR μ a = some r → ∀ H', Mx [] H H' → E (.ref (r.at T)) none H') ∧ (stampR μ a = none → ∀ v H', Mx [p, pm, pp] H H' → MetAt K T.C_Meter H' p pm pp (backM μ a cut).2 → Dp K H' v (backM μ a cut).1 → Q v H')
/-- come_up -/
def spComeUp (T : Tx K mg) : Sp := fun vs H Q E => ∃ (p pm pp : Addr) (μ : Mt) (cut : Option Nat), vs = [.ref p, cutO cut] ∧ MetAt K T.C_Meter H p pm pp μ ∧ Any μ.cells ∧ μ.stamps.length < 1000 ∧
  (μ.up = true → E (.ref T.E_Up) none H) ∧ (μ.up = false → ∀ v H', Mx [p, pm, pp] H H' → MetAt K T.C_Meter H' p pm pp (upM μ cut).2 → Dp K H' v (upM μ cut).1 → Q v H')
end
end Fk
namespace Fk
open PySem PySem.Spec PyProof.Rows L2
local macro_rules | `(tactic| wtm_at "ln") => `(tactic| first
  | omega
  | (simp only [List.length_cons, List.length_nil, List.length_map, List.length_append, List.length_replicate, List.length_take, List.length_drop, List.length_set]; omega)
  | (with_unfolding_all exact (by decide)))
local macro_rules | `(tactic| wtm_at "ar") => `(tactic| first
  | ((with_reducible show CMulW _ _); (refine' mulS ?_ ?_ <;> omega))
  | ((with_reducible show CDivW _ _); (refine' divS ?_ ?_ <;> omega))
  | ((with_reducible show CPow _ _); exact ⟨by decide, by decide, by decide⟩)
  | (show (0 : Int) < _; omega)
  | (with_unfolding_all exact (by decide)))
local macro_rules | `(tactic| wtm_at "at") => `(tactic| first
  | assumption
  | (refine' cl_atE ?e80 ?h80; (case' e80 => first | exact rfl | assumption); (case' h80 => wtm_at "ln"))
  | exact rfl)
local macro_rules | `(tactic| wtm_at "fr") => `(tactic| first
  | assumption
  | ((with_reducible refine' Mx.free0 ?m99 ?h99); (case' h99 => assumption); (case' m99 => wtm_at "mo")))
local macro_rules | `(tactic| wtm_at "hp") => `(tactic| first
  | assumption
  | ((with_reducible refine' Mx.get0 ?m1 ?h1); (case' m1 => assumption); (case' h1 => wtm_at "hp"))
  | ((with_reducible refine' Mx.get ?m2 ?n2 ?h2); (case' m2 => assumption); (case' n2 => wtm_at "nin"); (case' h2 => wtm_at "hp")))
local macro_rules | `(tactic| wtm_at "sl") => `(tactic| first
  | assumption
  | ((with_reducible refine' Mx.sqL0 ?m96 ?h96); (case' h96 => assumption); (case' m96 => wtm_at "mo"))
  | (refine' SqL.of ?h3; (case' h3 => wtm_at "hp"))
  | ((with_reducible refine' Mx.sqL0 ?m4 ?h4); (case' m4 => assumption); (case' h4 => wtm_at "sl"))
  | ((with_reducible refine' Mx.sqL ?m5 ?n5 ?h5); (case' m5 => assumption); (case' n5 => wtm_at "nin"); (case' h5 => wtm_at "sl")))
local macro_rules | `(tactic| wtm_at "st") => `(tactic| first
  | assumption
  | ((with_reducible refine' Mx.sqT0 ?m97 ?h97); (case' h97 => assumption); (case' m97 => wtm_at "mo"))
  | (refine' SqT.of ?h6; (case' h6 => wtm_at "hp"))
  | ((with_reducible refine' Mx.sqT0 ?m7 ?h7); (case' m7 => assumption); (case' h7 => wtm_at "st"))
  | ((with_reducible refine' Mx.sqT ?m8 ?n8 ?h8); (case' m8 => assumption); (case' n8 => wtm_at "nin"); (case' h8 => wtm_at "st")))
local macro_rules | `(tactic| wtm_at "mx") => `(tactic| first
  | assumption
  | exact Mx.refl
  | ((with_reducible refine' Mx.of0 ?h9); (case' h9 => assumption))
  | ((with_reducible refine' Mx.trans ?h10 ?m10); (case' m10 => first | assumption | ((with_reducible refine' Mx.of0 ?q10); (case' q10 => assumption))); (case' h10 => wtm_at "mx")))
local macro_rules | `(tactic| wtm_at "mo") => `(tactic| first
  | wtm_at "mx"
  | ((with_reducible refine' Mx.own ?m90 ?f90 ?k90); (case' k90 => assumption); (case' f90 => wtm_at "fr"); (case' m90 => wtm_at "mo"))
  | ((with_reducible refine' Mx.trans ?h91 ?m91); (case' m91 => first | assumption | ((with_reducible refine' Mx.of0 ?q91); (case' q91 => assumption))); (case' h91 => wtm_at "mo")))
local macro_rules | `(tactic| wtm_at "ne") => `(tactic| first
  | assumption
  | exact Ne.symm (by assumption)
  | ((with_reducible refine' ne_of_none ?x94 ?y94); (case' y94 => assumption); (case' x94 => wtm_at "hp"))
  | ((with_reducible refine' Ne.symm (ne_of_none ?x95 ?y95)); (case' y95 => assumption); (case' x95 => wtm_at "hp")))
local macro_rules | `(tactic| wtm_at "nin") => `(tactic| first
  | assumption
  | exact List.not_mem_nil
  | ((with_reducible refine' List.not_mem_cons_of_ne_of_not_mem ?h98 ?t98); (case' h98 => wtm_at "ne"); (case' t98 => wtm_at "nin")))
local macro_rules | `(tactic| wtm_at "g1") => `(tactic| first
  | ((with_reducible refine' g_var ?h11 ?k11); (case' h11 => exact rfl))
  | with_reducible refine' g_c ?_
  | with_reducible refine' g_op ?_
  | with_reducible refine' g_I0 ?_
  | ((with_reducible refine' g_I ?c12 ?k12); (case' c12 => wtm_at "ar"))
  | with_reducible refine' g_cons ?_
  | with_reducible refine' g_nil ?_
  | with_reducible refine' g_seq ?_
  | with_reducible refine' g_asg ?_
  | with_reducible refine' g_name ?_
  | with_reducible refine' g_ret ?_
  | with_reducible refine' g_if ?_
  | with_reducible refine' g_test ?_
  | with_reducible refine' g_tB ?_
  | with_reducible refine' g_bl ?_
  | ((with_reducible refine' g_eq ?h13 ?k13); (case' h13 => exact rfl))
  | ((with_reducible refine' g_ne ?h14 ?k14); (case' h14 => exact rfl))
  | with_reducible refine' g_CB ?_
  | with_reducible refine' g_call ?_
  | with_reducible refine' g_drop ?_
  | with_reducible refine' g_next ?_
  | with_reducible refine' g_not ?_
  | with_reducible refine' g_and ?_
  | with_reducible refine' g_or ?_
  | with_reducible refine' g_un ?_
  | with_reducible refine' g_U ?_
  | with_reducible refine' g_tup ?_
  | with_reducible refine' g_lst ?_
  | ((with_reducible refine' g_kNew ?h15 ?k15); (case' h15 => wtm_at "ln"); (case' k15 => intro _ _ _ _ _))
  | ((with_reducible refine' g_ixL ?h16 ?a16 ?k16); (case' h16 => wtm_at "sl"); (case' a16 => wtm_at "at"))
  | ((with_reducible refine' g_ixT ?h17 ?a17 ?k17); (case' h17 => wtm_at "st"); (case' a17 => wtm_at "at"))
  | with_reducible refine' g_slice ?_
  | with_reducible refine' g_part ?_
  | with_reducible refine' g_kPart ?_
  | with_reducible refine' g_noPart ?_
  | ((with_reducible refine' g_slL ?h18 ?k18); (case' h18 => wtm_at "sl"); (case' k18 => intro _ _ _ _ _))
  | ((with_reducible refine' g_cat ?h119 ?h219 ?l19 ?k19); (case' h119 => wtm_at "hp"); (case' h219 => wtm_at "hp"); (case' l19 => wtm_at "ln"); (case' k19 => intro _ _ _ _ _))
  | ((with_reducible refine' g_rep ?h120 ?h220 ?h320 ?l20 ?k20); (case' h120 => wtm_at "hp"); (case' h220 => wtm_at "ln"); (case' h320 => wtm_at "ln"); (case' l20 => wtm_at "ln"); (case' k20 => intro _ _ _ _ _))
  | ((with_reducible refine' g_append ?h21 ?l21 ?k21); (case' h21 => wtm_at "hp"); (case' l21 => wtm_at "ln"); (case' k21 => intro _ _ _))
  | ((with_reducible refine' g_kBM ?h22 ?k22); (case' h22 => wtm_at "sl"))
  | ((with_reducible refine' g_kBM0 ?h23 ?k23); (case' h23 => wtm_at "sl"))
  | ((with_reducible refine' g_kL ?h24 ?k24); (case' h24 => wtm_at "sl"))
  | ((with_reducible refine' g_kR1 ?h125 ?h225 ?k25); (case' h125 => wtm_at "ln"); (case' h225 => wtm_at "ln"))
  | ((with_reducible refine' g_kR2 ?h126 ?h226 ?h326 ?h426 ?k26); (case' h126 => wtm_at "ln"); (case' h226 => wtm_at "ln"); (case' h326 => wtm_at "ln"); (case' h426 => wtm_at "ln"))
  | ((with_reducible refine' g_lenL ?h27 ?k27); (case' h27 => wtm_at "sl"))
  | ((with_reducible refine' g_lenT ?h28 ?k28); (case' h28 => wtm_at "st"))
  | ((with_reducible refine' g_listL ?h29 ?k29); (case' h29 => wtm_at "sl"); (case' k29 => intro _ _ _ _ _))
  | ((with_reducible refine' g_tupleL ?h30 ?k30); (case' h30 => wtm_at "sl"); (case' k30 => intro _ _ _ _ _))
  | with_reducible refine' g_max ?_
  | with_reducible refine' g_min ?_
  | with_reducible refine' g_intB ?_
  | with_reducible refine' g_fld ?_
  | with_reducible refine' g_put ?_
  | with_reducible refine' g_dget ?_
  | with_reducible refine' g_isN ?_
  | with_reducible refine' g_notN ?_
  | with_reducible refine' g_ifE ?_
  | with_reducible refine' g_andV ?_
  | with_reducible refine' g_orV ?_
  | with_reducible refine' g_notV ?_
  | with_reducible refine' g_kIf ?_
  | with_reducible refine' g_chain ?_
  | with_reducible refine' g_kCh ?_
  | with_reducible refine' g_sub ?_
  | ((with_reducible refine' g_setI ?h92 ?e92 ?j92 ?k92); (case' h92 => wtm_at "hp"); (case' e92 => first | exact rfl | assumption); (case' j92 => wtm_at "ln"); (case' k92 => intro _ _ _))
  | ((with_reducible refine' g_setL ?h89 ?i89 ?k89); (case' h89 => wtm_at "hp"); (case' i89 => exact ixE rfl (by wtm_at "ln")); (case' k89 => intro _ _ _))
  | ((with_reducible refine' g_gtup ?h93 ?e93 ?k93); (case' h93 => wtm_at "st"); (case' e93 => exact rfl))
  | with_reducible refine' g_gcons ?_
  | with_reducible refine' g_gnil ?_
  | with_reducible refine' g_par ?_
  | with_reducible refine' g_kPar ?_
  | with_reducible refine' g_meth ?_
  | with_reducible refine' g_bm ?_
  | with_reducible refine' g_bm0 ?_
  | with_reducible refine' g_raise ?_
  | with_reducible refine' g_for ?_
  | with_reducible refine' g_iR1 ?_
  | with_reducible refine' g_iR2 ?_
  | with_reducible refine' g_iL ?_
  | with_reducible refine' g_lc ?_
  | with_reducible refine' g_retN ?_
  | with_reducible refine' g_no (b := false) rfl ?_
  | with_reducible refine' g_yes (b := true) rfl ?_)
local macro_rules | `(tactic| wtm_at "go") => `(tactic| repeat (wtm_at "g1"))
local macro_rules | `(tactic| wtm_at "gs") => `(tactic| repeat ((fail_if_success (with_reducible refine' g_ifE ?_)); wtm_at "g1"))
local macro_rules | `(tactic| wtm_at "gi") => `(tactic| repeat ((fail_if_success (with_reducible refine' g_if ?_)); wtm_at "g1"))
local macro_rules | `(tactic| wtm_at "gr") => `(tactic| repeat ((fail_if_success (with_reducible refine' g_ret ?_)); wtm_at "g1"))
local macro_rules | `(tactic| wtm_at "gq") => `(tactic| repeat ((fail_if_success (with_reducible refine' g_asg ?_)); wtm_at "g1"))
section
variable {P : Program} {w : World} {K : PySem.W.Frag} {mg : Str → Option Value} {base : Heap}
/-- a new instance is made -/
def kMk (x : Addr) (Q : VK) : VK := fun v H2 => v = .non ∧ Q (.ref x) H2
theorem g_kMk {x : Addr} {Q : VK} {H : Hp} (k : Q (.ref x) H) : kMk x Q .non H := ⟨rfl, k⟩
def kMake (C : Addr) (sp : Sp) (dvs : List V) (E : XK) (Q : VK) : List V → Hp → Prop := fun vs H1 => ∀ x dx, H1 x = none → H1 dx = none → dx ≠ x →
  sp (.ref x :: (vs ++ dvs)) (upd (upd H1 dx (.own x)) x (.ins C dx [])) (fun v H2 => v = .non ∧ Q (.ref x) H2) E
theorem g_make {C : Addr} {sp : Sp} {dvs : List V} {E : XK} {t : TA} {σ : L2.St} {H : Hp} {Q : VK} (k : t σ H (kMake C sp dvs E Q)) : tMake C sp dvs E t σ H Q := k
theorem g_kMake {C : Addr} {sp : Sp} {dvs vs : List V} {E : XK} {H : Hp} {Q : VK} (k : ∀ x dx H', H x = none → Mx [] H H' → H' x = some (.ins C dx []) → sp (.ref x :: (vs ++ dvs)) H' (kMk x Q) E) : kMake C sp dvs E Q vs H := fun x dx nx nd _ => by
  refine k x dx _ nx (fun a o e _ => ?_) upd_same
  rw [upd_ne (ne_of_none e nx), upd_ne (ne_of_none e nd)]
  exact e
local macro_rules | `(tactic| wtm_at "g1") => `(tactic| first
  | ((with_reducible refine' g_fOwn (by assumption) ?h201 ?k201); (case' h201 => wtm_at "hp"))
  | ((with_reducible refine' g_fKey (by assumption) ?h202 ?k202); (case' h202 => wtm_at "hp"))
  | ((with_reducible refine' g_fMem (by assumption) ?h203 ?k203); (case' h203 => wtm_at "hp"))
  | ((with_reducible refine' g_fPri (by assumption) ?h204 ?k204); (case' h204 => wtm_at "hp"))
  | ((with_reducible refine' g_fAwa (by assumption) ?h205 ?k205); (case' h205 => wtm_at "hp"))
  | ((with_reducible refine' g_pAwa (by assumption) ?h206 ?k206); (case' h206 => wtm_at "hp"); (case' k206 => intro _ _ _))
  | ((with_reducible refine' g_kMeth ?h207 ?l207 ?k207); (case' h207 => wtm_at "hp"); (case' l207 => exact rfl)))

/-- recovered -/
def spRecovered (T : Tx K mg) : Sp := fun vs H Q E => ∃ (n k : Int) (a b : Addr) (cs : List Int) (us : List V) (ss : List (Int × Int)), vs = [.int n, .int k, .ref a, .ref b] ∧ SqL K H a (cs.map V.int) ∧ cs.length ≤ 100000 ∧ SqL K H b us ∧ DpAll K H us (ss.map stD) ∧
  (((1 ≤ n ∧ n ≤ 9999) ∧ (0 ≤ k ∧ k ≤ 999981)) → Any cs → ∀ p pm pp H', H p = none → H pm = none → H pp = none → Mx [] H H' → MetAt K T.C_Meter H' p pm pp ⟨n, k, cs, ss, false⟩ → Q (.ref p) H') ∧
  (¬ ((1 ≤ n ∧ n ≤ 9999) ∧ (0 ≤ k ∧ k ≤ 999981)) → ∀ H', Mx [] H H' → E (.ref T.E_BadNumber) none H') ∧
  (((1 ≤ n ∧ n ≤ 9999) ∧ (0 ≤ k ∧ k ≤ 999981)) → ¬ Any cs → ∀ H', Mx [] H H' → E (.ref T.E_NoBank) none H')
theorem c_recovered (T : Tx K mg) : Cl P w K mg base 4 "recovered" (spRecovered T) [] := by
  refine T.f_recovered.cl sc_recovered (fun vs H Q E h => ?_) (fun cdv A outer s H vs Q E hr h => ?_)
  · obtain ⟨_, _, _, _, _, _, _, rfl, _⟩ := h
    rfl
  · obtain ⟨n, k, a, b, cs, us, ss, rfl, hS, hl, hB, hD, q1, q2, q3⟩ := h
    refine ⟨_, (pss_cons (ps_set (i := 4) sc_recovered.nd rfl (Or.inl rfl) (q_make (mk_Meter T) hr (by decide) rfl (passes_call (takes_of rfl rfl rfl rfl) (fun _ _ _ _ h => h)) (pa_cons (pv 0) (pa_cons (pv 1) pa_nil))))
      (pss_cons (ps_expr (q_call (c_bank_of T) hr (by decide) rfl (passes_call (takes_of rfl rfl rfl rfl) (fun _ _ _ _ h => h)) (pa_cons (pv 2) pa_nil)))
      (pss_cons (psFld K (pv 4) (pe_callTy (cList K) (by rfl) T.n_list (by decide +kernel) (pa_cons (pv 2) pa_nil)) rfl)
      (pss_cons (psFld K (pv 4) (pe_callTy (cList K) (by rfl) T.n_list (by decide +kernel) (pa_cons (pv 3) pa_nil)) rfl)
      (pss_cons (psFld K (pv 4) pe_bl rfl)
      (pss_one (ps_ret (pv 4)))))))), ?_⟩
    wtm_at "go"
    refine g_make ?_
    wtm_at "go"
    refine g_kMake fun p dx H1 n1 m1 e1 => ?_
    refine ⟨p, dx, n, k, rfl, e1, fun hv pm pp H2 n2 n3 m2 M => g_kMk ?_, fun hv => q2 hv _ m1⟩
    have c2 : Mx [] H H2 := fun x o ex _ => m2 x o (m1.get0 ex) (by simp; exact ne_of_none ex n1)
    obtain ⟨⟨dx2, ob⟩, me, pr, ne⟩ := M
    wtm_at "go"
    refine ⟨a, cs, rfl, c2.sqL0 hS, hl, fun hA bb H3 n4 m3 e3 => ?_, fun hA => fun H3 m3 => q3 hv hA _ (c2.trans m3)⟩
    wtm_at "go"
    rename_i l H4 n5 m4 e4
    refine g_kPut (m4.get0 (m3.get0 ob)) T.cls_Meter T.na_Meter_memory rfl (by show 5 < 1000; decide) fun H5 m5 e5 => ?_
    wtm_at "go"
    rename_i l2 H6 n6 m6 e6
    refine g_kPut (m6.get0 e5) T.cls_Meter T.na_Meter_prints rfl (by show 5 < 1000; decide) fun H7 m7 e7 => ?_
    have e7' : H7 p = some (.ins T.C_Meter dx2 (mFlds ⟨n, k, cs, ss, true⟩ l l2)) := e7
    wtm_at "go"
    rename_i H8 m8 e8
    have f4 : H l = none := (c2.trans m3).free0 n5
    have c6 : Mx [] H H6 := fun x o ex _ => m6.get0 (m5 _ _ (m4.get0 (m3.get0 (c2.get0 ex))) (by simp; exact ne_of_none ex n1))
    have f6 : H l2 = none := by
      refine Mx.free0 (H' := H5) (fun x o ex _ => m5 _ _ (m4.get0 (m3.get0 (c2.get0 ex))) (by simp; exact ne_of_none ex n1)) n6
    have d1 : l ≠ p := (ne_of_none (m3.get0 ob) n5).symm
    have d2 : l2 ≠ p := (ne_of_none e5 n6).symm
    have g1 : H6 l = some (.lst (cs.map V.int)) := m6.get0 (m5 _ _ e4 (by simpa using d1))
    have d3 : l ≠ l2 := by
      rintro rfl
      have := m5 _ _ e4 (by simpa using d1)
      rw [n6] at this
      cases this
    refine q1 hv hA p l l2 H8 n1 f4 f6 (fun x o ex _ => ?_) ⟨⟨dx2, e8⟩, ?_, ⟨us, ?_, ?_⟩, d3⟩
    · have hx : x ≠ p := ne_of_none ex n1
      exact m8 _ _ (m7 _ _ (c6.get0 ex) (by simpa using hx)) (by simpa using hx)
    · exact m8 _ _ (m7 _ _ g1 (by simpa using d1)) (by simpa using d1)
    · exact m8 _ _ (m7 _ _ e6 (by simpa using d2)) (by simpa using d2)
    · exact m8.sts (noTupI e7) (m7.sts (noTupI (m6.get0 e5)) (hD.mx c6))
end
end Fk
namespace Fk
open PySem PySem.Spec PyProof.Rows L2
local macro_rules | `(tactic| wtm_at "ln") => `(tactic| first
  | omega
  | (simp only [List.length_cons, List.length_nil, List.length_map, List.length_append, List.length_replicate, List.length_take, List.length_drop, List.length_set]; omega)
  | (with_unfolding_all exact (by decide)))
local macro_rules | `(tactic| wtm_at "ar") => `(tactic| first
  | ((with_reducible show CMulW _ _); (refine' mulS ?_ ?_ <;> omega))
  | ((with_reducible show CDivW _ _); (refine' divS ?_ ?_ <;> omega))
  | ((with_reducible show CPow _ _); exact ⟨by decide, by decide, by decide⟩)
  | (show (0 : Int) < _; omega)
  | (with_unfolding_all exact (by decide)))
local macro_rules | `(tactic| wtm_at "at") => `(tactic| first
  | assumption
  | (refine' cl_atE ?e80 ?h80; (case' e80 => first | exact rfl | assumption); (case' h80 => wtm_at "ln"))
  | exact rfl)
local macro_rules | `(tactic| wtm_at "fr") => `(tactic| first
  | assumption
  | ((with_reducible refine' Mx.free0 ?m99 ?h99); (case' h99 => assumption); (case' m99 => wtm_at "mo")))
local macro_rules | `(tactic| wtm_at "hp") => `(tactic| first
  | assumption
  | ((with_reducible refine' Mx.get0 ?m1 ?h1); (case' m1 => assumption); (case' h1 => wtm_at "hp"))
  | ((with_reducible refine' Mx.get ?m2 ?n2 ?h2); (case' m2 => assumption); (case' n2 => wtm_at "nin"); (case' h2 => wtm_at "hp")))
local macro_rules | `(tactic| wtm_at "sl") => `(tactic| first
  | assumption
  | ((with_reducible refine' Mx.sqL0 ?m96 ?h96); (case' h96 => assumption); (case' m96 => wtm_at "mo"))
  | (refine' SqL.of ?h3; (case' h3 => wtm_at "hp"))
  | ((with_reducible refine' Mx.sqL0 ?m4 ?h4); (case' m4 => assumption); (case' h4 => wtm_at "sl"))
  | ((with_reducible refine' Mx.sqL ?m5 ?n5 ?h5); (case' m5 => assumption); (case' n5 => wtm_at "nin"); (case' h5 => wtm_at "sl")))
local macro_rules | `(tactic| wtm_at "st") => `(tactic| first
  | assumption
  | ((with_reducible refine' Mx.sqT0 ?m97 ?h97); (case' h97 => assumption); (case' m97 => wtm_at "mo"))
  | (refine' SqT.of ?h6; (case' h6 => wtm_at "hp"))
  | ((with_reducible refine' Mx.sqT0 ?m7 ?h7); (case' m7 => assumption); (case' h7 => wtm_at "st"))
  | ((with_reducible refine' Mx.sqT ?m8 ?n8 ?h8); (case' m8 => assumption); (case' n8 => wtm_at "nin"); (case' h8 => wtm_at "st")))
local macro_rules | `(tactic| wtm_at "mx") => `(tactic| first
  | assumption
  | exact Mx.refl
  | ((with_reducible refine' Mx.of0 ?h9); (case' h9 => assumption))
  | ((with_reducible refine' Mx.trans ?h10 ?m10); (case' m10 => first | assumption | ((with_reducible refine' Mx.of0 ?q10); (case' q10 => assumption))); (case' h10 => wtm_at "mx")))
local macro_rules | `(tactic| wtm_at "mo") => `(tactic| first
  | wtm_at "mx"
  | ((with_reducible refine' Mx.own ?m90 ?f90 ?k90); (case' k90 => assumption); (case' f90 => wtm_at "fr"); (case' m90 => wtm_at "mo"))
  | ((with_reducible refine' Mx.trans ?h91 ?m91); (case' m91 => first | assumption | ((with_reducible refine' Mx.of0 ?q91); (case' q91 => assumption))); (case' h91 => wtm_at "mo")))
local macro_rules | `(tactic| wtm_at "ne") => `(tactic| first
  | assumption
  | exact Ne.symm (by assumption)
  | ((with_reducible refine' ne_of_none ?x94 ?y94); (case' y94 => assumption); (case' x94 => wtm_at "hp"))
  | ((with_reducible refine' Ne.symm (ne_of_none ?x95 ?y95)); (case' y95 => assumption); (case' x95 => wtm_at "hp")))
local macro_rules | `(tactic| wtm_at "nin") => `(tactic| first
  | assumption
  | exact List.not_mem_nil
  | ((with_reducible refine' List.not_mem_cons_of_ne_of_not_mem ?h98 ?t98); (case' h98 => wtm_at "ne"); (case' t98 => wtm_at "nin")))
local macro_rules | `(tactic| wtm_at "g1") => `(tactic| first
  | ((with_reducible refine' g_var ?h11 ?k11); (case' h11 => exact rfl))
  | with_reducible refine' g_c ?_
  | with_reducible refine' g_op ?_
  | with_reducible refine' g_I0 ?_
  | ((with_reducible refine' g_I ?c12 ?k12); (case' c12 => wtm_at "ar"))
  | with_reducible refine' g_cons ?_
  | with_reducible refine' g_nil ?_
  | with_reducible refine' g_seq ?_
  | with_reducible refine' g_asg ?_
  | with_reducible refine' g_name ?_
  | with_reducible refine' g_ret ?_
  | with_reducible refine' g_if ?_
  | with_reducible refine' g_test ?_
  | with_reducible refine' g_tB ?_
  | with_reducible refine' g_bl ?_
  | ((with_reducible refine' g_eq ?h13 ?k13); (case' h13 => exact rfl))
  | ((with_reducible refine' g_ne ?h14 ?k14); (case' h14 => exact rfl))
  | with_reducible refine' g_CB ?_
  | with_reducible refine' g_call ?_
  | with_reducible refine' g_drop ?_
  | with_reducible refine' g_next ?_
  | with_reducible refine' g_not ?_
  | with_reducible refine' g_and ?_
  | with_reducible refine' g_or ?_
  | with_reducible refine' g_un ?_
  | with_reducible refine' g_U ?_
  | with_reducible refine' g_tup ?_
  | with_reducible refine' g_lst ?_
  | ((with_reducible refine' g_kNew ?h15 ?k15); (case' h15 => wtm_at "ln"); (case' k15 => intro _ _ _ _ _))
  | ((with_reducible refine' g_ixL ?h16 ?a16 ?k16); (case' h16 => wtm_at "sl"); (case' a16 => wtm_at "at"))
  | ((with_reducible refine' g_ixT ?h17 ?a17 ?k17); (case' h17 => wtm_at "st"); (case' a17 => wtm_at "at"))
  | with_reducible refine' g_slice ?_
  | with_reducible refine' g_part ?_
  | with_reducible refine' g_kPart ?_
  | with_reducible refine' g_noPart ?_
  | ((with_reducible refine' g_slL ?h18 ?k18); (case' h18 => wtm_at "sl"); (case' k18 => intro _ _ _ _ _))
  | ((with_reducible refine' g_cat ?h119 ?h219 ?l19 ?k19); (case' h119 => wtm_at "hp"); (case' h219 => wtm_at "hp"); (case' l19 => wtm_at "ln"); (case' k19 => intro _ _ _ _ _))
  | ((with_reducible refine' g_rep ?h120 ?h220 ?h320 ?l20 ?k20); (case' h120 => wtm_at "hp"); (case' h220 => wtm_at "ln"); (case' h320 => wtm_at "ln"); (case' l20 => wtm_at "ln"); (case' k20 => intro _ _ _ _ _))
  | ((with_reducible refine' g_append ?h21 ?l21 ?k21); (case' h21 => wtm_at "hp"); (case' l21 => wtm_at "ln"); (case' k21 => intro _ _ _))
  | ((with_reducible refine' g_kBM ?h22 ?k22); (case' h22 => wtm_at "sl"))
  | ((with_reducible refine' g_kBM0 ?h23 ?k23); (case' h23 => wtm_at "sl"))
  | ((with_reducible refine' g_kL ?h24 ?k24); (case' h24 => wtm_at "sl"))
  | ((with_reducible refine' g_kR1 ?h125 ?h225 ?k25); (case' h125 => wtm_at "ln"); (case' h225 => wtm_at "ln"))
  | ((with_reducible refine' g_kR2 ?h126 ?h226 ?h326 ?h426 ?k26); (case' h126 => wtm_at "ln"); (case' h226 => wtm_at "ln"); (case' h326 => wtm_at "ln"); (case' h426 => wtm_at "ln"))
  | ((with_reducible refine' g_lenL ?h27 ?k27); (case' h27 => wtm_at "sl"))
  | ((with_reducible refine' g_lenT ?h28 ?k28); (case' h28 => wtm_at "st"))
  | ((with_reducible refine' g_listL ?h29 ?k29); (case' h29 => wtm_at "sl"); (case' k29 => intro _ _ _ _ _))
  | ((with_reducible refine' g_tupleL ?h30 ?k30); (case' h30 => wtm_at "sl"); (case' k30 => intro _ _ _ _ _))
  | with_reducible refine' g_max ?_
  | with_reducible refine' g_min ?_
  | with_reducible refine' g_intB ?_
  | with_reducible refine' g_fld ?_
  | with_reducible refine' g_put ?_
  | with_reducible refine' g_dget ?_
  | with_reducible refine' g_isN ?_
  | with_reducible refine' g_notN ?_
  | with_reducible refine' g_ifE ?_
  | with_reducible refine' g_andV ?_
  | with_reducible refine' g_orV ?_
  | with_reducible refine' g_notV ?_
  | with_reducible refine' g_kIf ?_
  | with_reducible refine' g_chain ?_
  | with_reducible refine' g_kCh ?_
  | with_reducible refine' g_sub ?_
  | ((with_reducible refine' g_setI ?h92 ?e92 ?j92 ?k92); (case' h92 => wtm_at "hp"); (case' e92 => first | exact rfl | assumption); (case' j92 => wtm_at "ln"); (case' k92 => intro _ _ _))
  | ((with_reducible refine' g_setL ?h89 ?i89 ?k89); (case' h89 => wtm_at "hp"); (case' i89 => exact ixE rfl (by wtm_at "ln")); (case' k89 => intro _ _ _))
  | ((with_reducible refine' g_gtup ?h93 ?e93 ?k93); (case' h93 => wtm_at "st"); (case' e93 => exact rfl))
  | with_reducible refine' g_gcons ?_
  | with_reducible refine' g_gnil ?_
  | with_reducible refine' g_par ?_
  | with_reducible refine' g_kPar ?_
  | with_reducible refine' g_meth ?_
  | with_reducible refine' g_bm ?_
  | with_reducible refine' g_bm0 ?_
  | with_reducible refine' g_raise ?_
  | with_reducible refine' g_for ?_
  | with_reducible refine' g_iR1 ?_
  | with_reducible refine' g_iR2 ?_
  | with_reducible refine' g_iL ?_
  | with_reducible refine' g_lc ?_
  | with_reducible refine' g_retN ?_
  | with_reducible refine' g_no (b := false) rfl ?_
  | with_reducible refine' g_yes (b := true) rfl ?_)
local macro_rules | `(tactic| wtm_at "go") => `(tactic| repeat (wtm_at "g1"))
local macro_rules | `(tactic| wtm_at "gs") => `(tactic| repeat ((fail_if_success (with_reducible refine' g_ifE ?_)); wtm_at "g1"))
local macro_rules | `(tactic| wtm_at "gi") => `(tactic| repeat ((fail_if_success (with_reducible refine' g_if ?_)); wtm_at "g1"))
local macro_rules | `(tactic| wtm_at "gr") => `(tactic| repeat ((fail_if_success (with_reducible refine' g_ret ?_)); wtm_at "g1"))
local macro_rules | `(tactic| wtm_at "gq") => `(tactic| repeat ((fail_if_success (with_reducible refine' g_asg ?_)); wtm_at "g1"))
/-! ### the law's own: drawing, codes, what a meter is -/
/-- where drawing stands: the list at r; H0: the heap at the law's entry, which stays -/
structure StAt (K : PySem.W.Frag) (H0 H : Hp) (r : Addr) : Prop where
  ex : ∃ (a : Addr) (ns : List Int) (i m l : Int), H r = some (.lst [.ref a, .int i, .int m, .int l]) ∧ SqL K H0 a (ns.map V.int) ∧ ns.length ≤ 63 ∧ 0 ≤ i ∧ 0 ≤ m ∧ m < 2147483647 ∧ 0 ≤ l
  fr : H0 r = none
  mx : Mx [] H0 H
theorem mx_fresh {S : List Addr} {H0 H H' : Hp} (m0 : Mx [] H0 H) (m : Mx S H H') (f : ∀ x ∈ S, H0 x = none) : Mx [] H0 H' := fun a o e _ =>
  m a o (m0.get0 e) fun z => by have := f a z; rw [e] at this; cases this
theorem StAt.mv {K : PySem.W.Frag} {S : List Addr} {H0 H H' : Hp} {r : Addr} (s : StAt K H0 H r) (m : Mx S H H') (f : ∀ x ∈ S, H0 x = none) (n : r ∉ S) : StAt K H0 H' r := by
  obtain ⟨⟨a, ns, i, mm, l, h, q⟩, fr, mx⟩ := s
  exact ⟨⟨a, ns, i, mm, l, m _ _ h n, q⟩, fr, mx_fresh mx m f⟩
theorem StAt.mx0 {K : PySem.W.Frag} {H0 H H' : Hp} {r : Addr} (s : StAt K H0 H r) (m : Mx [] H H') : StAt K H0 H' r := s.mv m (fun _ h => by simp at h) (by simp)
/-- the dict that tells what a meter is -/
def lmKvs (μ : Mt) (qc qs : Addr) : List (Key × V) := [(Sum.inr "number", .int μ.num), (Sum.inr "key", .int μ.key), (Sum.inr "cells", .ref qc), (Sum.inr "stamps", .ref qs), (Sum.inr "up", .bl μ.up)]
structure LmAt (K : PySem.W.Frag) (H : Hp) (q qc qs : Addr) (μ : Mt) : Prop where
  ob : H q = some (.dK (lmKvs μ qc qs))
  ce : H qc = some (.lst (μ.cells.map V.int))
  st : ∃ vs, H qs = some (.lst vs) ∧ DpAll K H vs (μ.stamps.map stD)
  ne : qc ≠ qs
theorem LmAt.mx {K : PySem.W.Frag} {S : List Addr} {H H' : Hp} {q qc qs : Addr} {μ : Mt} (M : LmAt K H q qc qs μ) (m : Mx S H H') (n : NoTup H S) (h1 : q ∉ S) (h2 : qc ∉ S) (h3 : qs ∉ S) : LmAt K H' q qc qs μ := by
  obtain ⟨ob, ce, ⟨vs, st, dp⟩, ne⟩ := M
  exact ⟨m _ _ ob h1, m _ _ ce h2, ⟨vs, m _ _ st h3, m.sts n dp⟩, ne⟩
theorem LmAt.mx0 {K : PySem.W.Frag} {H H' : Hp} {q qc qs : Addr} {μ : Mt} (M : LmAt K H q qc qs μ) (m : Mx [] H H') : LmAt K H' q qc qs μ := M.mx m noTup0 (by simp) (by simp) (by simp)
theorem LmAt.q_qc {K : PySem.W.Frag} {H : Hp} {q qc qs : Addr} {μ : Mt} (M : LmAt K H q qc qs μ) : q ≠ qc := ne_of M.ob M.ce fun z => nomatch z
theorem LmAt.q_qs {K : PySem.W.Frag} {H : Hp} {q qc qs : Addr} {μ : Mt} (M : LmAt K H q qc qs μ) : q ≠ qs := by
  obtain ⟨vs, st, _⟩ := M.st
  exact ne_of M.ob st fun z => nomatch z
theorem noTupD {H : Hp} {l : Addr} {xs : List (Key × V)} (h : H l = some (.dK xs)) : NoTup H [l] := fun x hx u e => by
  simp at hx; subst hx; rw [h] at e; cases e; exact ⟨(fun _ z => nomatch z), (fun _ _ z => nomatch z)⟩
theorem NoTup.cons {H : Hp} {x : Addr} {S : List Addr} (h : NoTup H [x]) (t : NoTup H S) : NoTup H (x :: S) := fun y hy u e => by
  rcases List.mem_cons.mp hy with rfl | hy
  · exact h _ (by simp) u e
  · exact t y hy u e
section
variable {P : Program} {w : World} {K : PySem.W.Frag} {mg : Str → Option Value} {base : Heap}
section
variable {D : Ends} {σ : L2.St} {H : Hp} {Q : VK} {x v y : V}
def kDPut (v : V) (x : V) (N : Hp → Prop) : VK := fun y H3 => ∃ a H4, x = .ref a ∧ DPut H3 a y v H4 ∧ N H4
theorem g_dput {td ty tv : TE} (k : tv σ H fun v H1 => td σ H1 fun x H2 => ty σ H2 (kDPut v x fun H4 => D.nx σ H4)) : sDPut td ty tv D σ H := k
theorem g_kDPutS {a : Addr} {z : Str} {kvs kvs' : List (Key × V)} {N : Hp → Prop} (h : H a = some (.dK kvs)) (e : putK kvs (Sum.inr z) v = kvs') (hl : kvs.length ≤ 100) (k : ∀ H', Mx [a] H H' → H' a = some (.dK kvs') → N H') : kDPut v (.ref a) N (.str z) H :=
  ⟨a, _, rfl, DPut.k (k := Sum.inr z) h (lineL (by omega)), k _ (.put (by simp)) (by rw [upd_same, e])⟩
theorem g_dNum {q qc qs : Addr} {μ : Mt} (h : H q = some (.dK (lmKvs μ qc qs))) (k : Q (.int μ.num) H) : kDGet (.ref q) Q (.str "number") H := g_kDGetS h rfl k
theorem g_dKey {q qc qs : Addr} {μ : Mt} (h : H q = some (.dK (lmKvs μ qc qs))) (k : Q (.int μ.key) H) : kDGet (.ref q) Q (.str "key") H := g_kDGetS h rfl k
theorem g_dCe {q qc qs : Addr} {μ : Mt} (h : H q = some (.dK (lmKvs μ qc qs))) (k : Q (.ref qc) H) : kDGet (.ref q) Q (.str "cells") H := g_kDGetS h rfl k
theorem g_dSt {q qc qs : Addr} {μ : Mt} (h : H q = some (.dK (lmKvs μ qc qs))) (k : Q (.ref qs) H) : kDGet (.ref q) Q (.str "stamps") H := g_kDGetS h rfl k
theorem g_dUp {q qc qs : Addr} {μ : Mt} (h : H q = some (.dK (lmKvs μ qc qs))) (k : Q (.bl μ.up) H) : kDGet (.ref q) Q (.str "up") H := g_kDGetS h rfl k
/-- a dict displayed -/
def vkey : V → Key
  | .str s => Sum.inr s
  | .int i => Sum.inl i
  | _ => Sum.inl 0
def kDisp (p : Addr) (Q : VK) : List (V × V) → Hp → Prop := fun ps H2 => H2 p = some (.dK []) ∧ ∃ kvs : List (Key × V), ps = kvs.map (fun kv => (kV kv.1, kv.2)) ∧ kvs.length ≤ 15 ∧ Q (.ref p) (upd H2 p (.dK (mergeK [] kvs)))
theorem g_disp {trs : List (TE × TE)} (k : ∀ p H', H p = none → Mx [] H H' → H' p = some (.dK []) → tPairs trs σ H' (kDisp p Q)) : tDisp trs σ H Q := fun p hp => k p _ hp (.new hp) upd_same
theorem g_pnil {QP : List (V × V) → Hp → Prop} (k : QP [] H) : tPairs [] σ H QP := k
theorem g_pcons {tk tv : TE} {r : List (TE × TE)} {QP : List (V × V) → Hp → Prop} (k : tk σ H fun x H1 => tv σ H1 fun y H2 => tPairs r σ H2 fun ps H3 => QP ((x, y) :: ps) H3) : tPairs ((tk, tv) :: r) σ H QP := k
theorem g_kDisp {p : Addr} {ps : List (V × V)} {kvs : List (Key × V)} (h : H p = some (.dK [])) (e : (ps.map fun z => (vkey z.1, z.2)).map (fun kv => (kV kv.1, kv.2)) = ps) (f : mergeK [] (ps.map fun z => (vkey z.1, z.2)) = kvs) (l : ps.length ≤ 15)
    (k : ∀ H', Mx [p] H H' → H' p = some (.dK kvs) → Q (.ref p) H') : kDisp p Q ps H :=
  ⟨h, ps.map fun z => (vkey z.1, z.2), e.symm, by rw [List.length_map]; exact l, k _ (.put (by simp)) (by rw [upd_same, f])⟩
theorem g_pUp {a qc qs : Addr} {μ : Mt} {b : Bool} {N : Hp → Prop} (h : H a = some (.dK (lmKvs μ qc qs))) (k : ∀ H', Mx [a] H H' → H' a = some (.dK (lmKvs { μ with up := b } qc qs)) → N H') : kDPut (.bl b) (.ref a) N (.str "up") H :=
  g_kDPutS h rfl (by show 5 ≤ 100; decide) k
theorem g_pSt {a qc qs l : Addr} {μ : Mt} {N : Hp → Prop} (h : H a = some (.dK (lmKvs μ qc qs))) (k : ∀ H', Mx [a] H H' → H' a = some (.dK (lmKvs μ qc l)) → N H') : kDPut (.ref l) (.ref a) N (.str "stamps") H :=
  g_kDPutS h rfl (by show 5 ≤ 100; decide) k
theorem g_pCe {a qc qs l : Addr} {μ : Mt} {N : Hp → Prop} (h : H a = some (.dK (lmKvs μ qc qs))) (k : ∀ H', Mx [a] H H' → H' a = some (.dK (lmKvs μ l qs)) → N H') : kDPut (.ref l) (.ref a) N (.str "cells") H :=
  g_kDPutS h rfl (by show 5 ≤ 100; decide) k
end
local macro_rules | `(tactic| wtm_at "g1") => `(tactic| first
  | ((with_reducible refine' g_fOwn (by assumption) ?h201 ?k201); (case' h201 => wtm_at "hp"))
  | ((with_reducible refine' g_fKey (by assumption) ?h202 ?k202); (case' h202 => wtm_at "hp"))
  | ((with_reducible refine' g_fMem (by assumption) ?h203 ?k203); (case' h203 => wtm_at "hp"))
  | ((with_reducible refine' g_fPri (by assumption) ?h204 ?k204); (case' h204 => wtm_at "hp"))
  | ((with_reducible refine' g_fAwa (by assumption) ?h205 ?k205); (case' h205 => wtm_at "hp"))
  | ((with_reducible refine' g_pAwa (by assumption) ?h206 ?k206); (case' h206 => wtm_at "hp"); (case' k206 => intro _ _ _))
  | ((with_reducible refine' g_kMeth ?h207 ?l207 ?k207); (case' h207 => wtm_at "hp"); (case' l207 => exact rfl)))

local macro_rules | `(tactic| wtm_at "g1") => `(tactic| first
  | ((with_reducible refine' g_dNum ?h311 ?k311); (case' h311 => wtm_at "hp"))
  | ((with_reducible refine' g_dKey ?h312 ?k312); (case' h312 => wtm_at "hp"))
  | ((with_reducible refine' g_dCe ?h313 ?k313); (case' h313 => wtm_at "hp"))
  | ((with_reducible refine' g_dSt ?h314 ?k314); (case' h314 => wtm_at "hp"))
  | ((with_reducible refine' g_dUp ?h315 ?k315); (case' h315 => wtm_at "hp"))
  | ((with_reducible refine' g_kDGetS ?h301 ?l301 ?k301); (case' h301 => wtm_at "hp"); (case' l301 => exact rfl))
  | (with_reducible refine' g_dput ?_)
  | (with_reducible refine' g_iK ?_)
  | ((with_reducible refine' g_disp ?k305); (case' k305 => intro _ _ _ _ _))
  | (with_reducible refine' g_pcons ?_)
  | (with_reducible refine' g_pnil ?_)
  | ((with_reducible refine' g_kDisp ?h306 ?e306 ?f306 ?l306 ?k306); (case' h306 => wtm_at "hp"); (case' e306 => exact rfl); (case' f306 => exact rfl); (case' l306 => wtm_at "ln"); (case' k306 => intro _ _ _))
  | ((with_reducible refine' g_pUp ?h302 ?k302); (case' h302 => wtm_at "hp"); (case' k302 => intro _ _ _))
  | ((with_reducible refine' g_pSt ?h303 ?k303); (case' h303 => wtm_at "hp"); (case' k303 => intro _ _ _))
  | ((with_reducible refine' g_pCe ?h304 ?k304); (case' h304 => wtm_at "hp"); (case' k304 => intro _ _ _)))

def spStart : Sp := fun vs H Q _ => ∃ (a : Addr) (ns : List Int), vs = [.ref a] ∧ SqL K H a (ns.map V.int) ∧ ns.length ≤ 63 ∧ ∀ r H', H r = none → Mx [] H H' → StAt K H H' r → Q (.ref r) H'
theorem c__law_start (T : Tx K mg) : Cl P w K mg base 1 "_law_start" (spStart (K := K)) [] := by
  refine T.f__law_start.cl sc__law_start (fun vs H Q E h => ?_) (fun cdv A outer s H vs Q E hr h => ?_)
  · obtain ⟨_, _, rfl, _⟩ := h
    rfl
  · obtain ⟨a, ns, rfl, hS, hl, q⟩ := h
    refine ⟨_, (pss_cons (ps_set (i := 1) sc__law_start.nd rfl (Or.inl rfl) pe_int)
      (pss_cons (ps_for (passes_of rfl) rfl (piL K (pv 0)) (pg_name (i := 2) sc__law_start.nd rfl (Or.inl rfl))
      (pss_one (ps_set (i := 1) sc__law_start.nd rfl (Or.inl rfl) (pe_op op_mod (pe_op op_add (pe_op op_add (pe_op op_mulW (pv 1) pe_int) (pv 2)) pe_int) pe_int))))
      (pss_one (ps_ret (pe_lst (pa_cons (pv 0) (pa_cons pe_int (pa_cons (pv 1) (pa_cons pe_int pa_nil))))))))), ?_⟩
    wtm_at "go"
    refine g_forL (xs := ns.map V.int) (fun i σ' H' => ∃ (m : Int) (x : Option V), σ' = [some (.ref a), some (.int m), x] ∧ 0 ≤ m ∧ m < 2147483647 ∧ H' = H)
      ⟨1, none, rfl, by omega, by omega, rfl⟩ (fun i σ' H' _ hP => ?_) (fun i x σ' H' hx hP => ?_) (fun σ' H' hP => ?_)
    · obtain ⟨_, _, _, _, _, rfl⟩ := hP
      exact hS
    · obtain ⟨m, x0, rfl, h0, h1, rfl⟩ := hP
      rw [List.getElem?_map, Option.map_eq_some_iff] at hx
      obtain ⟨c, hc, rfl⟩ := hx
      wtm_at "go"
      exact ⟨_, _, rfl, Int.emod_nonneg _ (by omega), Int.emod_lt_of_pos _ (by omega), rfl⟩
    · obtain ⟨m, x0, rfl, h0, h1, rfl⟩ := hP
      wtm_at "go"
      rename_i r H1 n1 m1 e1
      exact q r H1 n1 m1 ⟨⟨a, ns, 0, m, 0, e1, hS, hl, by omega, h0, h1, by omega⟩, n1, m1⟩
def spDrawn : Sp := fun vs H Q _ => ∃ (H0 : Hp) (r : Addr) (n : Int), vs = [.ref r, .int n] ∧ StAt K H0 H r ∧ 0 < n ∧ n < 2 ^ 300 ∧ ∀ x H', 0 ≤ x → x < n → Mx [r] H H' → StAt K H0 H' r → Q (.int x) H'
theorem c__law_drawn (T : Tx K mg) : Cl P w K mg base 1 "_law_drawn" (spDrawn (K := K)) [] := by
  refine T.f__law_drawn.cl sc__law_drawn (fun vs H Q E h => ?_) (fun cdv A outer s H vs Q E hr h => ?_)
  · obtain ⟨_, _, _, rfl, _⟩ := h
    rfl
  · obtain ⟨H0, r, n, rfl, ⟨⟨a, ns, i, m, l, e0, hS, hl, hi, hm0, hm1, hl0⟩, f0, m0⟩, hn0, hn1, q⟩ := h
    refine ⟨_, (pss_cons (ps_if (pt_cmpR op_gt (pe_ix (ixL K) (pv 0) pe_int (fun _ _ => rfl)) pe_int (by first | exact nomark _ | rfl)) (pss_cons (ps_set (i := 2) sc__law_drawn.nd rfl (Or.inl rfl) (pe_op op_mod (pe_ix (ixL K) (pv 0) pe_int (fun _ _ => rfl)) (pv 1)))
      (pss_cons (ps_asg (pe_op op_fdivW (pe_ix (ixL K) (pv 0) pe_int (fun _ _ => rfl)) (pv 1)) (pg_sub (pv 0) pe_int set_list))
      (pss_one (ps_ret (pv 2))))) pss_nil)
      (pss_cons (ps_asg (pe_op op_add (pe_ix (ixL K) (pv 0) pe_int (fun _ _ => rfl)) pe_int) (pg_sub (pv 0) pe_int set_list))
      (pss_cons (ps_if (pt_cmpR op_le (pe_ix (ixL K) (pv 0) pe_int (fun _ _ => rfl)) (pe_callB (cLen K) (by rfl) T.n_len (by decide +kernel) (pa_cons (pe_ix (ixL K) (pv 0) pe_int (fun _ _ => rfl)) pa_nil)) (by first | exact nomark _ | rfl)) (pss_cons (ps_set (i := 3) sc__law_drawn.nd rfl (Or.inl rfl) (pe_ix (ixL K) (pe_ix (ixL K) (pv 0) pe_int (fun _ _ => rfl)) (pe_op op_sub (pe_ix (ixL K) (pv 0) pe_int (fun _ _ => rfl)) pe_int) (fun _ _ => rfl)))
      (pss_cons (ps_asg (pe_ifExp (pt_cmpR op_ge (pv 3) (pe_op op_pow pe_int pe_int) (by first | exact nomark _ | rfl)) (pe_op op_fdivW (pv 3) (pv 1)) pe_int) (pg_sub (pv 0) pe_int set_list))
      (pss_one (ps_ret (pe_op op_mod (pv 3) (pv 1)))))) pss_nil)
      (pss_cons (ps_asg (pe_op op_mod (pe_op op_add (pe_op op_mulW (pe_ix (ixL K) (pv 0) pe_int (fun _ _ => rfl)) pe_int) pe_int) pe_int) (pg_sub (pv 0) pe_int set_list))
      (pss_one (ps_ret (pe_op op_mod (pe_op op_fdivW (pe_ix (ixL K) (pv 0) pe_int (fun _ _ => rfl)) pe_int) (pv 1)))))))), ?_⟩
    wtm_at "go"
    refine g_ite (fun e => ?_) (fun e => ?_)
    · wtm_at "go"
      rename_i H1 m1 e1
      exact q _ _ (Int.emod_nonneg _ (by omega)) (Int.emod_lt_of_pos _ (by omega)) m1 ⟨⟨a, ns, i, m, l / n, e1, hS, hl, hi, hm0, hm1, Int.ediv_nonneg hl0 (by omega)⟩, f0, by wtm_at "mo"⟩
    · wtm_at "go"
      rename_i H1 m1 e1
      refine g_ite (fun e2 => ?_) (fun e2 => ?_)
      · have e3 : i + 1 ≤ (ns.length : Int) := by simpa using e2
        have e4 : i + 1 - 1 = ((i.toNat : Nat) : Int) := by omega
        have e5 : i.toNat < ns.length := by omega
        wtm_at "go"
        refine g_ite (fun e6 => ?_) (fun e6 => ?_)
        · wtm_at "go"
          rename_i H2 m2 e7
          have h6 : 0 ≤ cl ns i.toNat := by
            have : (10 : Int) ^ (18 : Int).toNat ≤ cl ns i.toNat := by simpa using e6
            have h18 : (0 : Int) ≤ 10 ^ (18 : Int).toNat := by decide
            omega
          exact q _ _ (Int.emod_nonneg _ (by omega)) (Int.emod_lt_of_pos _ (by omega)) (m1.trans m2) ⟨⟨a, ns, i + 1, m, cl ns i.toNat / n, e7, hS, hl, by omega, hm0, hm1, Int.ediv_nonneg h6 (by omega)⟩, f0, by wtm_at "mo"⟩
        · wtm_at "go"
          rename_i H2 m2 e7
          exact q _ _ (Int.emod_nonneg _ (by omega)) (Int.emod_lt_of_pos _ (by omega)) (m1.trans m2) ⟨⟨a, ns, i + 1, m, 0, e7, hS, hl, by omega, hm0, hm1, by omega⟩, f0, by wtm_at "mo"⟩
      · wtm_at "go"
        rename_i H2 m2 e7
        exact q _ _ (Int.emod_nonneg _ (by omega)) (Int.emod_lt_of_pos _ (by omega)) (m1.trans m2) ⟨⟨a, ns, i + 1, _, l, e7, hS, hl, by omega, Int.emod_nonneg _ (by omega), Int.emod_lt_of_pos _ (by omega), hl0⟩, f0, by wtm_at "mo"⟩
/-- an amount -/
def spAmount : Sp := fun vs H Q _ => ∃ (H0 : Hp) (r : Addr), vs = [.ref r] ∧ StAt K H0 H r ∧ ∀ x H', 1 ≤ x → x ≤ 99999 → Mx [r] H H' → StAt K H0 H' r → Q (.int x) H'
/-- signs and codes -/
theorem sgn_law (k m c a kd : Int) : (k * (17 * m + 31 * c + 53 * a + kd) + (17 * m + 31 * c + 53 * a + kd)) % 999983 = sgn k m c a kd := by
  unfold sgn
  congr 1
  rw [Int.add_mul, Int.one_mul]
/-- what a meter is -/
def spLMeter : Sp := fun vs H Q _ => ∃ (n k : Int), vs = [.int n, .int k] ∧ ∀ q qc qs H', H q = none → H qc = none → H qs = none → Mx [] H H' → LmAt K H' q qc qs ⟨n, k, 1 :: List.replicate 19 0, [], true⟩ → Q (.ref q) H'
/-- the bank that stands, by own look -/
def spLBank : Sp := fun vs H Q _ => ∃ (a : Addr) (cs : List Int), vs = [.ref a] ∧ SqL K H a (cs.map V.int) ∧ Any cs ∧ ∀ p H', H p = none → Mx [] H H' → H' p = some (.lst ((bank cs).map V.int)) → Q (.ref p) H'
theorem cut_lo {cs : List Int} : cutV (cs.map V.int) none (some 10) = (cs.take 10).map V.int := by
  have e : (10 : Int) = ((10 : Nat) : Int) := rfl
  rw [e]
  unfold cutV
  rw [HT.sIx_nat, HT.sIx_none, List.length_map, List.drop_zero, Nat.sub_zero, List.map_take]
  by_cases h : 10 ≤ cs.length
  · rw [Nat.min_eq_left h]
  · rw [Nat.min_eq_right (by omega), List.take_of_length_le (by simp), List.take_of_length_le (by simp; omega)]
theorem cut_hi {cs : List Int} : cutV (cs.map V.int) (some 10) none = (cs.drop 10).map V.int := by
  have e : (10 : Int) = ((10 : Nat) : Int) := rfl
  rw [e]
  unfold cutV
  rw [HT.sIx_nat, HT.sIx_none, List.length_map, ← List.map_drop]
  by_cases h : 10 ≤ cs.length
  · rw [Nat.min_eq_left h, List.take_of_length_le (by simp)]
  · rw [Nat.min_eq_right (by omega), Nat.sub_self, List.take_zero, List.drop_eq_nil_of_le (by omega)]
    rfl
end
end Fk
namespace Fk
open PySem PySem.Spec PyProof.Rows L2
local macro_rules | `(tactic| wtm_at "ln") => `(tactic| first
  | omega
  | (simp only [List.length_cons, List.length_nil, List.length_map, List.length_append, List.length_replicate, List.length_take, List.length_drop, List.length_set]; omega)
  | (with_unfolding_all exact (by decide)))
local macro_rules | `(tactic| wtm_at "ar") => `(tactic| first
  | ((with_reducible show CMulW _ _); (refine' mulS ?_ ?_ <;> omega))
  | ((with_reducible show CDivW _ _); (refine' divS ?_ ?_ <;> omega))
  | ((with_reducible show CPow _ _); exact ⟨by decide, by decide, by decide⟩)
  | (show (0 : Int) < _; omega)
  | (with_unfolding_all exact (by decide)))
local macro_rules | `(tactic| wtm_at "at") => `(tactic| first
  | assumption
  | (refine' cl_atE ?e80 ?h80; (case' e80 => first | exact rfl | assumption); (case' h80 => wtm_at "ln"))
  | exact rfl)
local macro_rules | `(tactic| wtm_at "fr") => `(tactic| first
  | assumption
  | ((with_reducible refine' Mx.free0 ?m99 ?h99); (case' h99 => assumption); (case' m99 => wtm_at "mo")))
local macro_rules | `(tactic| wtm_at "hp") => `(tactic| first
  | assumption
  | ((with_reducible refine' Mx.get0 ?m1 ?h1); (case' m1 => assumption); (case' h1 => wtm_at "hp"))
  | ((with_reducible refine' Mx.get ?m2 ?n2 ?h2); (case' m2 => assumption); (case' n2 => wtm_at "nin"); (case' h2 => wtm_at "hp")))
local macro_rules | `(tactic| wtm_at "sl") => `(tactic| first
  | assumption
  | ((with_reducible refine' Mx.sqL0 ?m96 ?h96); (case' h96 => assumption); (case' m96 => wtm_at "mo"))
  | (refine' SqL.of ?h3; (case' h3 => wtm_at "hp"))
  | ((with_reducible refine' Mx.sqL0 ?m4 ?h4); (case' m4 => assumption); (case' h4 => wtm_at "sl"))
  | ((with_reducible refine' Mx.sqL ?m5 ?n5 ?h5); (case' m5 => assumption); (case' n5 => wtm_at "nin"); (case' h5 => wtm_at "sl")))
local macro_rules | `(tactic| wtm_at "st") => `(tactic| first
  | assumption
  | ((with_reducible refine' Mx.sqT0 ?m97 ?h97); (case' h97 => assumption); (case' m97 => wtm_at "mo"))
  | (refine' SqT.of ?h6; (case' h6 => wtm_at "hp"))
  | ((with_reducible refine' Mx.sqT0 ?m7 ?h7); (case' m7 => assumption); (case' h7 => wtm_at "st"))
  | ((with_reducible refine' Mx.sqT ?m8 ?n8 ?h8); (case' m8 => assumption); (case' n8 => wtm_at "nin"); (case' h8 => wtm_at "st")))
local macro_rules | `(tactic| wtm_at "mx") => `(tactic| first
  | assumption
  | exact Mx.refl
  | ((with_reducible refine' Mx.of0 ?h9); (case' h9 => assumption))
  | ((with_reducible refine' Mx.trans ?h10 ?m10); (case' m10 => first | assumption | ((with_reducible refine' Mx.of0 ?q10); (case' q10 => assumption))); (case' h10 => wtm_at "mx")))
local macro_rules | `(tactic| wtm_at "mo") => `(tactic| first
  | wtm_at "mx"
  | ((with_reducible refine' Mx.own ?m90 ?f90 ?k90); (case' k90 => assumption); (case' f90 => wtm_at "fr"); (case' m90 => wtm_at "mo"))
  | ((with_reducible refine' Mx.trans ?h91 ?m91); (case' m91 => first | assumption | ((with_reducible refine' Mx.of0 ?q91); (case' q91 => assumption))); (case' h91 => wtm_at "mo")))
local macro_rules | `(tactic| wtm_at "ne") => `(tactic| first
  | assumption
  | exact Ne.symm (by assumption)
  | ((with_reducible refine' ne_of_none ?x94 ?y94); (case' y94 => assumption); (case' x94 => wtm_at "hp"))
  | ((with_reducible refine' Ne.symm (ne_of_none ?x95 ?y95)); (case' y95 => assumption); (case' x95 => wtm_at "hp")))
local macro_rules | `(tactic| wtm_at "nin") => `(tactic| first
  | assumption
  | exact List.not_mem_nil
  | ((with_reducible refine' List.not_mem_cons_of_ne_of_not_mem ?h98 ?t98); (case' h98 => wtm_at "ne"); (case' t98 => wtm_at "nin")))
local macro_rules | `(tactic| wtm_at "g1") => `(tactic| first
  | ((with_reducible refine' g_var ?h11 ?k11); (case' h11 => exact rfl))
  | with_reducible refine' g_c ?_
  | with_reducible refine' g_op ?_
  | with_reducible refine' g_I0 ?_
  | ((with_reducible refine' g_I ?c12 ?k12); (case' c12 => wtm_at "ar"))
  | with_reducible refine' g_cons ?_
  | with_reducible refine' g_nil ?_
  | with_reducible refine' g_seq ?_
  | with_reducible refine' g_asg ?_
  | with_reducible refine' g_name ?_
  | with_reducible refine' g_ret ?_
  | with_reducible refine' g_if ?_
  | with_reducible refine' g_test ?_
  | with_reducible refine' g_tB ?_
  | with_reducible refine' g_bl ?_
  | ((with_reducible refine' g_eq ?h13 ?k13); (case' h13 => exact rfl))
  | ((with_reducible refine' g_ne ?h14 ?k14); (case' h14 => exact rfl))
  | with_reducible refine' g_CB ?_
  | with_reducible refine' g_call ?_
  | with_reducible refine' g_drop ?_
  | with_reducible refine' g_next ?_
  | with_reducible refine' g_not ?_
  | with_reducible refine' g_and ?_
  | with_reducible refine' g_or ?_
  | with_reducible refine' g_un ?_
  | with_reducible refine' g_U ?_
  | with_reducible refine' g_tup ?_
  | with_reducible refine' g_lst ?_
  | ((with_reducible refine' g_kNew ?h15 ?k15); (case' h15 => wtm_at "ln"); (case' k15 => intro _ _ _ _ _))
  | ((with_reducible refine' g_ixL ?h16 ?a16 ?k16); (case' h16 => wtm_at "sl"); (case' a16 => wtm_at "at"))
  | ((with_reducible refine' g_ixT ?h17 ?a17 ?k17); (case' h17 => wtm_at "st"); (case' a17 => wtm_at "at"))
  | with_reducible refine' g_slice ?_
  | with_reducible refine' g_part ?_
  | with_reducible refine' g_kPart ?_
  | with_reducible refine' g_noPart ?_
  | ((with_reducible refine' g_slL ?h18 ?k18); (case' h18 => wtm_at "sl"); (case' k18 => intro _ _ _ _ _))
  | ((with_reducible refine' g_cat ?h119 ?h219 ?l19 ?k19); (case' h119 => wtm_at "hp"); (case' h219 => wtm_at "hp"); (case' l19 => wtm_at "ln"); (case' k19 => intro _ _ _ _ _))
  | ((with_reducible refine' g_rep ?h120 ?h220 ?h320 ?l20 ?k20); (case' h120 => wtm_at "hp"); (case' h220 => wtm_at "ln"); (case' h320 => wtm_at "ln"); (case' l20 => wtm_at "ln"); (case' k20 => intro _ _ _ _ _))
  | ((with_reducible refine' g_append ?h21 ?l21 ?k21); (case' h21 => wtm_at "hp"); (case' l21 => wtm_at "ln"); (case' k21 => intro _ _ _))
  | ((with_reducible refine' g_kBM ?h22 ?k22); (case' h22 => wtm_at "sl"))
  | ((with_reducible refine' g_kBM0 ?h23 ?k23); (case' h23 => wtm_at "sl"))
  | ((with_reducible refine' g_kL ?h24 ?k24); (case' h24 => wtm_at "sl"))
  | ((with_reducible refine' g_kR1 ?h125 ?h225 ?k25); (case' h125 => wtm_at "ln"); (case' h225 => wtm_at "ln"))
  | ((with_reducible refine' g_kR2 ?h126 ?h226 ?h326 ?h426 ?k26); (case' h126 => wtm_at "ln"); (case' h226 => wtm_at "ln"); (case' h326 => wtm_at "ln"); (case' h426 => wtm_at "ln"))
  | ((with_reducible refine' g_lenL ?h27 ?k27); (case' h27 => wtm_at "sl"))
  | ((with_reducible refine' g_lenT ?h28 ?k28); (case' h28 => wtm_at "st"))
  | ((with_reducible refine' g_listL ?h29 ?k29); (case' h29 => wtm_at "sl"); (case' k29 => intro _ _ _ _ _))
  | ((with_reducible refine' g_tupleL ?h30 ?k30); (case' h30 => wtm_at "sl"); (case' k30 => intro _ _ _ _ _))
  | with_reducible refine' g_max ?_
  | with_reducible refine' g_min ?_
  | with_reducible refine' g_intB ?_
  | with_reducible refine' g_fld ?_
  | with_reducible refine' g_put ?_
  | with_reducible refine' g_dget ?_
  | with_reducible refine' g_isN ?_
  | with_reducible refine' g_notN ?_
  | with_reducible refine' g_ifE ?_
  | with_reducible refine' g_andV ?_
  | with_reducible refine' g_orV ?_
  | with_reducible refine' g_notV ?_
  | with_reducible refine' g_kIf ?_
  | with_reducible refine' g_chain ?_
  | with_reducible refine' g_kCh ?_
  | with_reducible refine' g_sub ?_
  | ((with_reducible refine' g_setI ?h92 ?e92 ?j92 ?k92); (case' h92 => wtm_at "hp"); (case' e92 => first | exact rfl | assumption); (case' j92 => wtm_at "ln"); (case' k92 => intro _ _ _))
  | ((with_reducible refine' g_setL ?h89 ?i89 ?k89); (case' h89 => wtm_at "hp"); (case' i89 => exact ixE rfl (by wtm_at "ln")); (case' k89 => intro _ _ _))
  | ((with_reducible refine' g_gtup ?h93 ?e93 ?k93); (case' h93 => wtm_at "st"); (case' e93 => exact rfl))
  | with_reducible refine' g_gcons ?_
  | with_reducible refine' g_gnil ?_
  | with_reducible refine' g_par ?_
  | with_reducible refine' g_kPar ?_
  | with_reducible refine' g_meth ?_
  | with_reducible refine' g_bm ?_
  | with_reducible refine' g_bm0 ?_
  | with_reducible refine' g_raise ?_
  | with_reducible refine' g_for ?_
  | with_reducible refine' g_iR1 ?_
  | with_reducible refine' g_iR2 ?_
  | with_reducible refine' g_iL ?_
  | with_reducible refine' g_lc ?_
  | with_reducible refine' g_retN ?_
  | with_reducible refine' g_no (b := false) rfl ?_
  | with_reducible refine' g_yes (b := true) rfl ?_)
local macro_rules | `(tactic| wtm_at "go") => `(tactic| repeat (wtm_at "g1"))
local macro_rules | `(tactic| wtm_at "gs") => `(tactic| repeat ((fail_if_success (with_reducible refine' g_ifE ?_)); wtm_at "g1"))
local macro_rules | `(tactic| wtm_at "gi") => `(tactic| repeat ((fail_if_success (with_reducible refine' g_if ?_)); wtm_at "g1"))
local macro_rules | `(tactic| wtm_at "gr") => `(tactic| repeat ((fail_if_success (with_reducible refine' g_ret ?_)); wtm_at "g1"))
local macro_rules | `(tactic| wtm_at "gq") => `(tactic| repeat ((fail_if_success (with_reducible refine' g_asg ?_)); wtm_at "g1"))
/-! ### the law's own steps -/
def newsKvs (chs : List (Nat × Int)) : List (Key × V) := chs.map fun c => (Sum.inl (c.1 : Int), V.int c.2)
theorem newsKvs_get {chs : List (Nat × Int)} (nd : (chs.map (·.1)).Nodup) {c : Nat × Int} (h : c ∈ chs) : valV (newsKvs chs) (Sum.inl (c.1 : Int)) = some (.int c.2) := by
  induction chs with
  | nil => cases h
  | cons b r ih =>
    rw [List.map_cons, List.nodup_cons] at nd
    unfold newsKvs valV
    rw [List.map_cons, List.find?_cons]
    rcases List.mem_cons.mp h with rfl | h
    · simp
    · have : ¬ (b.1 : Int) = (c.1 : Int) := fun e => nd.1 (by
        have : b.1 = c.1 := by omega
        rw [this]
        exact List.mem_map_of_mem h)
      have e2 : decide ((Sum.inl (b.1 : Int) : Key) = Sum.inl (c.1 : Int)) = false := by simp [this]
      simp only [e2]
      exact ih nd.2 h
theorem begin_iff {cs : List Int} (hA : Any cs) : (bank cs = cs.take 10 ∧ cl cs 0 = 1) ↔ stand cs = 0 := by
  constructor
  · rintro ⟨h, h0⟩
    have hs := stand_le cs
    refine Classical.byContradiction fun hn => ?_
    have h1 : stand cs = 1 := by omega
    have a0 : cl (bank cs) 0 = cl cs 0 := by rw [h, cl_take (by omega)]
    have a1 : cl (bank cs) 1 = cl cs 1 := by rw [h, cl_take (by omega)]
    rw [cl_bank (by omega), h1] at a0 a1
    refine hn ?_
    unfold stand
    rw [if_pos]
    refine ⟨h0, fun z => ?_⟩
    have : cl cs 11 = cl cs 1 := a1
    omega
  · intro h
    have hw := stand_whole hA
    rw [h] at hw
    exact ⟨by unfold bank; rw [h]; rfl, hw⟩
section
variable {P : Program} {w : World} {K : PySem.W.Frag} {mg : Str → Option Value} {base : Heap}
local macro_rules | `(tactic| wtm_at "g1") => `(tactic| first
  | ((with_reducible refine' g_fOwn (by assumption) ?h201 ?k201); (case' h201 => wtm_at "hp"))
  | ((with_reducible refine' g_fKey (by assumption) ?h202 ?k202); (case' h202 => wtm_at "hp"))
  | ((with_reducible refine' g_fMem (by assumption) ?h203 ?k203); (case' h203 => wtm_at "hp"))
  | ((with_reducible refine' g_fPri (by assumption) ?h204 ?k204); (case' h204 => wtm_at "hp"))
  | ((with_reducible refine' g_fAwa (by assumption) ?h205 ?k205); (case' h205 => wtm_at "hp"))
  | ((with_reducible refine' g_pAwa (by assumption) ?h206 ?k206); (case' h206 => wtm_at "hp"); (case' k206 => intro _ _ _))
  | ((with_reducible refine' g_kMeth ?h207 ?l207 ?k207); (case' h207 => wtm_at "hp"); (case' l207 => exact rfl)))

local macro_rules | `(tactic| wtm_at "g1") => `(tactic| first
  | ((with_reducible refine' g_dNum ?h311 ?k311); (case' h311 => wtm_at "hp"))
  | ((with_reducible refine' g_dKey ?h312 ?k312); (case' h312 => wtm_at "hp"))
  | ((with_reducible refine' g_dCe ?h313 ?k313); (case' h313 => wtm_at "hp"))
  | ((with_reducible refine' g_dSt ?h314 ?k314); (case' h314 => wtm_at "hp"))
  | ((with_reducible refine' g_dUp ?h315 ?k315); (case' h315 => wtm_at "hp"))
  | ((with_reducible refine' g_kDGetS ?h301 ?l301 ?k301); (case' h301 => wtm_at "hp"); (case' l301 => exact rfl))
  | (with_reducible refine' g_dput ?_)
  | (with_reducible refine' g_iK ?_)
  | ((with_reducible refine' g_disp ?k305); (case' k305 => intro _ _ _ _ _))
  | (with_reducible refine' g_pcons ?_)
  | (with_reducible refine' g_pnil ?_)
  | ((with_reducible refine' g_kDisp ?h306 ?e306 ?f306 ?l306 ?k306); (case' h306 => wtm_at "hp"); (case' e306 => exact rfl); (case' f306 => exact rfl); (case' l306 => wtm_at "ln"); (case' k306 => intro _ _ _))
  | ((with_reducible refine' g_pUp ?h302 ?k302); (case' h302 => wtm_at "hp"); (case' k302 => intro _ _ _))
  | ((with_reducible refine' g_pSt ?h303 ?k303); (case' h303 => wtm_at "hp"); (case' k303 => intro _ _ _))
  | ((with_reducible refine' g_pCe ?h304 ?k304); (case' h304 => wtm_at "hp"); (case' k304 => intro _ _ _)))

def spLSteps : Sp := fun vs H Q _ => ∃ (q qc qs d : Addr) (μ : Mt) (chs : List (Nat × Int)), vs = [.ref q, .ref d] ∧ LmAt K H q qc qs μ ∧ Any μ.cells ∧ H d = some (.dK (newsKvs chs)) ∧ (chs.map (·.1)).Nodup ∧ Chs chs ∧
  ∀ p H' ws, H p = none → Mx [] H H' → H' p = some (.lst ws) → DpAll K H' ws ((stepsOf μ.cells chs).map stD) → Q (.ref p) H'
end
end Fk
namespace Fk
open PySem PySem.Spec PyProof.Rows L2
local macro_rules | `(tactic| wtm_at "ln") => `(tactic| first
  | omega
  | (simp only [List.length_cons, List.length_nil, List.length_map, List.length_append, List.length_replicate, List.length_take, List.length_drop, List.length_set]; omega)
  | (with_unfolding_all exact (by decide)))
local macro_rules | `(tactic| wtm_at "ar") => `(tactic| first
  | ((with_reducible show CMulW _ _); (refine' mulS ?_ ?_ <;> omega))
  | ((with_reducible show CDivW _ _); (refine' divS ?_ ?_ <;> omega))
  | ((with_reducible show CPow _ _); exact ⟨by decide, by decide, by decide⟩)
  | (show (0 : Int) < _; omega)
  | (with_unfolding_all exact (by decide)))
local macro_rules | `(tactic| wtm_at "at") => `(tactic| first
  | assumption
  | (refine' cl_atE ?e80 ?h80; (case' e80 => first | exact rfl | assumption); (case' h80 => wtm_at "ln"))
  | exact rfl)
local macro_rules | `(tactic| wtm_at "fr") => `(tactic| first
  | assumption
  | ((with_reducible refine' Mx.free0 ?m99 ?h99); (case' h99 => assumption); (case' m99 => wtm_at "mo")))
local macro_rules | `(tactic| wtm_at "hp") => `(tactic| first
  | assumption
  | ((with_reducible refine' Mx.get0 ?m1 ?h1); (case' m1 => assumption); (case' h1 => wtm_at "hp"))
  | ((with_reducible refine' Mx.get ?m2 ?n2 ?h2); (case' m2 => assumption); (case' n2 => wtm_at "nin"); (case' h2 => wtm_at "hp")))
local macro_rules | `(tactic| wtm_at "sl") => `(tactic| first
  | assumption
  | ((with_reducible refine' Mx.sqL0 ?m96 ?h96); (case' h96 => assumption); (case' m96 => wtm_at "mo"))
  | (refine' SqL.of ?h3; (case' h3 => wtm_at "hp"))
  | ((with_reducible refine' Mx.sqL0 ?m4 ?h4); (case' m4 => assumption); (case' h4 => wtm_at "sl"))
  | ((with_reducible refine' Mx.sqL ?m5 ?n5 ?h5); (case' m5 => assumption); (case' n5 => wtm_at "nin"); (case' h5 => wtm_at "sl")))
local macro_rules | `(tactic| wtm_at "st") => `(tactic| first
  | assumption
  | ((with_reducible refine' Mx.sqT0 ?m97 ?h97); (case' h97 => assumption); (case' m97 => wtm_at "mo"))
  | (refine' SqT.of ?h6; (case' h6 => wtm_at "hp"))
  | ((with_reducible refine' Mx.sqT0 ?m7 ?h7); (case' m7 => assumption); (case' h7 => wtm_at "st"))
  | ((with_reducible refine' Mx.sqT ?m8 ?n8 ?h8); (case' m8 => assumption); (case' n8 => wtm_at "nin"); (case' h8 => wtm_at "st")))
local macro_rules | `(tactic| wtm_at "mx") => `(tactic| first
  | assumption
  | exact Mx.refl
  | ((with_reducible refine' Mx.of0 ?h9); (case' h9 => assumption))
  | ((with_reducible refine' Mx.trans ?h10 ?m10); (case' m10 => first | assumption | ((with_reducible refine' Mx.of0 ?q10); (case' q10 => assumption))); (case' h10 => wtm_at "mx")))
local macro_rules | `(tactic| wtm_at "mo") => `(tactic| first
  | wtm_at "mx"
  | ((with_reducible refine' Mx.own ?m90 ?f90 ?k90); (case' k90 => assumption); (case' f90 => wtm_at "fr"); (case' m90 => wtm_at "mo"))
  | ((with_reducible refine' Mx.trans ?h91 ?m91); (case' m91 => first | assumption | ((with_reducible refine' Mx.of0 ?q91); (case' q91 => assumption))); (case' h91 => wtm_at "mo")))
local macro_rules | `(tactic| wtm_at "ne") => `(tactic| first
  | assumption
  | exact Ne.symm (by assumption)
  | ((with_reducible refine' ne_of_none ?x94 ?y94); (case' y94 => assumption); (case' x94 => wtm_at "hp"))
  | ((with_reducible refine' Ne.symm (ne_of_none ?x95 ?y95)); (case' y95 => assumption); (case' x95 => wtm_at "hp")))
local macro_rules | `(tactic| wtm_at "nin") => `(tactic| first
  | assumption
  | exact List.not_mem_nil
  | ((with_reducible refine' List.not_mem_cons_of_ne_of_not_mem ?h98 ?t98); (case' h98 => wtm_at "ne"); (case' t98 => wtm_at "nin")))
local macro_rules | `(tactic| wtm_at "g1") => `(tactic| first
  | ((with_reducible refine' g_var ?h11 ?k11); (case' h11 => exact rfl))
  | with_reducible refine' g_c ?_
  | with_reducible refine' g_op ?_
  | with_reducible refine' g_I0 ?_
  | ((with_reducible refine' g_I ?c12 ?k12); (case' c12 => wtm_at "ar"))
  | with_reducible refine' g_cons ?_
  | with_reducible refine' g_nil ?_
  | with_reducible refine' g_seq ?_
  | with_reducible refine' g_asg ?_
  | with_reducible refine' g_name ?_
  | with_reducible refine' g_ret ?_
  | with_reducible refine' g_if ?_
  | with_reducible refine' g_test ?_
  | with_reducible refine' g_tB ?_
  | with_reducible refine' g_bl ?_
  | ((with_reducible refine' g_eq ?h13 ?k13); (case' h13 => exact rfl))
  | ((with_reducible refine' g_ne ?h14 ?k14); (case' h14 => exact rfl))
  | with_reducible refine' g_CB ?_
  | with_reducible refine' g_call ?_
  | with_reducible refine' g_drop ?_
  | with_reducible refine' g_next ?_
  | with_reducible refine' g_not ?_
  | with_reducible refine' g_and ?_
  | with_reducible refine' g_or ?_
  | with_reducible refine' g_un ?_
  | with_reducible refine' g_U ?_
  | with_reducible refine' g_tup ?_
  | with_reducible refine' g_lst ?_
  | ((with_reducible refine' g_kNew ?h15 ?k15); (case' h15 => wtm_at "ln"); (case' k15 => intro _ _ _ _ _))
  | ((with_reducible refine' g_ixL ?h16 ?a16 ?k16); (case' h16 => wtm_at "sl"); (case' a16 => wtm_at "at"))
  | ((with_reducible refine' g_ixT ?h17 ?a17 ?k17); (case' h17 => wtm_at "st"); (case' a17 => wtm_at "at"))
  | with_reducible refine' g_slice ?_
  | with_reducible refine' g_part ?_
  | with_reducible refine' g_kPart ?_
  | with_reducible refine' g_noPart ?_
  | ((with_reducible refine' g_slL ?h18 ?k18); (case' h18 => wtm_at "sl"); (case' k18 => intro _ _ _ _ _))
  | ((with_reducible refine' g_cat ?h119 ?h219 ?l19 ?k19); (case' h119 => wtm_at "hp"); (case' h219 => wtm_at "hp"); (case' l19 => wtm_at "ln"); (case' k19 => intro _ _ _ _ _))
  | ((with_reducible refine' g_rep ?h120 ?h220 ?h320 ?l20 ?k20); (case' h120 => wtm_at "hp"); (case' h220 => wtm_at "ln"); (case' h320 => wtm_at "ln"); (case' l20 => wtm_at "ln"); (case' k20 => intro _ _ _ _ _))
  | ((with_reducible refine' g_append ?h21 ?l21 ?k21); (case' h21 => wtm_at "hp"); (case' l21 => wtm_at "ln"); (case' k21 => intro _ _ _))
  | ((with_reducible refine' g_kBM ?h22 ?k22); (case' h22 => wtm_at "sl"))
  | ((with_reducible refine' g_kBM0 ?h23 ?k23); (case' h23 => wtm_at "sl"))
  | ((with_reducible refine' g_kL ?h24 ?k24); (case' h24 => wtm_at "sl"))
  | ((with_reducible refine' g_kR1 ?h125 ?h225 ?k25); (case' h125 => wtm_at "ln"); (case' h225 => wtm_at "ln"))
  | ((with_reducible refine' g_kR2 ?h126 ?h226 ?h326 ?h426 ?k26); (case' h126 => wtm_at "ln"); (case' h226 => wtm_at "ln"); (case' h326 => wtm_at "ln"); (case' h426 => wtm_at "ln"))
  | ((with_reducible refine' g_lenL ?h27 ?k27); (case' h27 => wtm_at "sl"))
  | ((with_reducible refine' g_lenT ?h28 ?k28); (case' h28 => wtm_at "st"))
  | ((with_reducible refine' g_listL ?h29 ?k29); (case' h29 => wtm_at "sl"); (case' k29 => intro _ _ _ _ _))
  | ((with_reducible refine' g_tupleL ?h30 ?k30); (case' h30 => wtm_at "sl"); (case' k30 => intro _ _ _ _ _))
  | with_reducible refine' g_max ?_
  | with_reducible refine' g_min ?_
  | with_reducible refine' g_intB ?_
  | with_reducible refine' g_fld ?_
  | with_reducible refine' g_put ?_
  | with_reducible refine' g_dget ?_
  | with_reducible refine' g_isN ?_
  | with_reducible refine' g_notN ?_
  | with_reducible refine' g_ifE ?_
  | with_reducible refine' g_andV ?_
  | with_reducible refine' g_orV ?_
  | with_reducible refine' g_notV ?_
  | with_reducible refine' g_kIf ?_
  | with_reducible refine' g_chain ?_
  | with_reducible refine' g_kCh ?_
  | with_reducible refine' g_sub ?_
  | ((with_reducible refine' g_setI ?h92 ?e92 ?j92 ?k92); (case' h92 => wtm_at "hp"); (case' e92 => first | exact rfl | assumption); (case' j92 => wtm_at "ln"); (case' k92 => intro _ _ _))
  | ((with_reducible refine' g_setL ?h89 ?i89 ?k89); (case' h89 => wtm_at "hp"); (case' i89 => exact ixE rfl (by wtm_at "ln")); (case' k89 => intro _ _ _))
  | ((with_reducible refine' g_gtup ?h93 ?e93 ?k93); (case' h93 => wtm_at "st"); (case' e93 => exact rfl))
  | with_reducible refine' g_gcons ?_
  | with_reducible refine' g_gnil ?_
  | with_reducible refine' g_par ?_
  | with_reducible refine' g_kPar ?_
  | with_reducible refine' g_meth ?_
  | with_reducible refine' g_bm ?_
  | with_reducible refine' g_bm0 ?_
  | with_reducible refine' g_raise ?_
  | with_reducible refine' g_for ?_
  | with_reducible refine' g_iR1 ?_
  | with_reducible refine' g_iR2 ?_
  | with_reducible refine' g_iL ?_
  | with_reducible refine' g_lc ?_
  | with_reducible refine' g_retN ?_
  | with_reducible refine' g_no (b := false) rfl ?_
  | with_reducible refine' g_yes (b := true) rfl ?_)
local macro_rules | `(tactic| wtm_at "go") => `(tactic| repeat (wtm_at "g1"))
local macro_rules | `(tactic| wtm_at "gs") => `(tactic| repeat ((fail_if_success (with_reducible refine' g_ifE ?_)); wtm_at "g1"))
local macro_rules | `(tactic| wtm_at "gi") => `(tactic| repeat ((fail_if_success (with_reducible refine' g_if ?_)); wtm_at "g1"))
local macro_rules | `(tactic| wtm_at "gr") => `(tactic| repeat ((fail_if_success (with_reducible refine' g_ret ?_)); wtm_at "g1"))
local macro_rules | `(tactic| wtm_at "gq") => `(tactic| repeat ((fail_if_success (with_reducible refine' g_asg ?_)); wtm_at "g1"))
/-! ### the law's own deeds -/
def runM (μ : Mt) (chs : List (Nat × Int)) (cut : Option Nat) : Bool × Mt :=
  match writeM μ chs cut with
  | (none, μ1) => (false, μ1)
  | (some left, μ1) => printM μ1 left
theorem lastNo_cons (ss : List (Int × Int)) : lastNo ((0, 0) :: ss) = lastNo ss := by
  unfold lastNo
  cases ss with
  | nil => rfl
  | cons a r => rw [List.getLast?_cons_cons]
section
variable {P : Program} {w : World} {K : PySem.W.Frag} {mg : Str → Option Value} {base : Heap}
local macro_rules | `(tactic| wtm_at "g1") => `(tactic| first
  | ((with_reducible refine' g_fOwn (by assumption) ?h201 ?k201); (case' h201 => wtm_at "hp"))
  | ((with_reducible refine' g_fKey (by assumption) ?h202 ?k202); (case' h202 => wtm_at "hp"))
  | ((with_reducible refine' g_fMem (by assumption) ?h203 ?k203); (case' h203 => wtm_at "hp"))
  | ((with_reducible refine' g_fPri (by assumption) ?h204 ?k204); (case' h204 => wtm_at "hp"))
  | ((with_reducible refine' g_fAwa (by assumption) ?h205 ?k205); (case' h205 => wtm_at "hp"))
  | ((with_reducible refine' g_pAwa (by assumption) ?h206 ?k206); (case' h206 => wtm_at "hp"); (case' k206 => intro _ _ _))
  | ((with_reducible refine' g_kMeth ?h207 ?l207 ?k207); (case' h207 => wtm_at "hp"); (case' l207 => exact rfl)))

local macro_rules | `(tactic| wtm_at "g1") => `(tactic| first
  | ((with_reducible refine' g_dNum ?h311 ?k311); (case' h311 => wtm_at "hp"))
  | ((with_reducible refine' g_dKey ?h312 ?k312); (case' h312 => wtm_at "hp"))
  | ((with_reducible refine' g_dCe ?h313 ?k313); (case' h313 => wtm_at "hp"))
  | ((with_reducible refine' g_dSt ?h314 ?k314); (case' h314 => wtm_at "hp"))
  | ((with_reducible refine' g_dUp ?h315 ?k315); (case' h315 => wtm_at "hp"))
  | ((with_reducible refine' g_kDGetS ?h301 ?l301 ?k301); (case' h301 => wtm_at "hp"); (case' l301 => exact rfl))
  | (with_reducible refine' g_dput ?_)
  | (with_reducible refine' g_iK ?_)
  | ((with_reducible refine' g_disp ?k305); (case' k305 => intro _ _ _ _ _))
  | (with_reducible refine' g_pcons ?_)
  | (with_reducible refine' g_pnil ?_)
  | ((with_reducible refine' g_kDisp ?h306 ?e306 ?f306 ?l306 ?k306); (case' h306 => wtm_at "hp"); (case' e306 => exact rfl); (case' f306 => exact rfl); (case' l306 => wtm_at "ln"); (case' k306 => intro _ _ _))
  | ((with_reducible refine' g_pUp ?h302 ?k302); (case' h302 => wtm_at "hp"); (case' k302 => intro _ _ _))
  | ((with_reducible refine' g_pSt ?h303 ?k303); (case' h303 => wtm_at "hp"); (case' k303 => intro _ _ _))
  | ((with_reducible refine' g_pCe ?h304 ?k304); (case' h304 => wtm_at "hp"); (case' k304 => intro _ _ _)))

def spLOwed : Sp := fun vs H Q _ => ∃ (q qc qs : Addr) (μ : Mt), vs = [.ref q] ∧ LmAt K H q qc qs μ ∧ Any μ.cells ∧ μ.stamps.length < 1000 ∧
  match owed μ with
  | none => ∀ H', Mx [] H H' → Q .non H'
  | some s => ∀ l H', H l = none → Mx [] H H' → H' l = some (.tup [.int s.1, .int s.2]) → Q (.ref l) H'
/-- the steps and the print that is owed, up to a cut -/
def spLRun : Sp := fun vs H Q _ => ∃ (q qc qs d : Addr) (μ : Mt) (chs : List (Nat × Int)) (cut : Option Nat), vs = [.ref q, .ref d, cutO cut] ∧ LmAt K H q qc qs μ ∧ Any μ.cells ∧ μ.stamps.length < 1000 ∧ H d = some (.dK (newsKvs chs)) ∧ (chs.map (·.1)).Nodup ∧ Chs chs ∧
  ∀ H', Mx [q, qc, qs] H H' → LmAt K H' q qc qs (runM μ chs cut).2 → Q (.bl (runM μ chs cut).1) H'
theorem cut_eq {c : Option Nat} {i : Nat} (h : decide (V.int (i : Int) = cutO c) = true) : c = some i := by
  cases c with
  | none => simp [cutO] at h
  | some k => simp [cutO] at h; simp; omega
theorem cut_ne {c : Option Nat} {i : Nat} (h : decide (V.int (i : Int) = cutO c) = false) : c ≠ some i := by
  rintro rfl
  simp [cutO] at h
theorem scal_icut (i : Int) (c : Option Nat) : scal (.int i) (cutO c) = true := by cases c <;> rfl
theorem scal_cuti (i : Int) (c : Option Nat) : scal (cutO c) (.int i) = true := by cases c <;> rfl
end
end Fk
namespace Fk
open PySem PySem.Spec PyProof.Rows L2
local macro_rules | `(tactic| wtm_at "ln") => `(tactic| first
  | omega
  | (simp only [List.length_cons, List.length_nil, List.length_map, List.length_append, List.length_replicate, List.length_take, List.length_drop, List.length_set]; omega)
  | (with_unfolding_all exact (by decide)))
local macro_rules | `(tactic| wtm_at "ar") => `(tactic| first
  | ((with_reducible show CMulW _ _); (refine' mulS ?_ ?_ <;> omega))
  | ((with_reducible show CDivW _ _); (refine' divS ?_ ?_ <;> omega))
  | ((with_reducible show CPow _ _); exact ⟨by decide, by decide, by decide⟩)
  | (show (0 : Int) < _; omega)
  | (with_unfolding_all exact (by decide)))
local macro_rules | `(tactic| wtm_at "at") => `(tactic| first
  | assumption
  | (refine' cl_atE ?e80 ?h80; (case' e80 => first | exact rfl | assumption); (case' h80 => wtm_at "ln"))
  | exact rfl)
local macro_rules | `(tactic| wtm_at "fr") => `(tactic| first
  | assumption
  | ((with_reducible refine' Mx.free0 ?m99 ?h99); (case' h99 => assumption); (case' m99 => wtm_at "mo")))
local macro_rules | `(tactic| wtm_at "hp") => `(tactic| first
  | assumption
  | ((with_reducible refine' Mx.get0 ?m1 ?h1); (case' m1 => assumption); (case' h1 => wtm_at "hp"))
  | ((with_reducible refine' Mx.get ?m2 ?n2 ?h2); (case' m2 => assumption); (case' n2 => wtm_at "nin"); (case' h2 => wtm_at "hp")))
local macro_rules | `(tactic| wtm_at "sl") => `(tactic| first
  | assumption
  | ((with_reducible refine' Mx.sqL0 ?m96 ?h96); (case' h96 => assumption); (case' m96 => wtm_at "mo"))
  | (refine' SqL.of ?h3; (case' h3 => wtm_at "hp"))
  | ((with_reducible refine' Mx.sqL0 ?m4 ?h4); (case' m4 => assumption); (case' h4 => wtm_at "sl"))
  | ((with_reducible refine' Mx.sqL ?m5 ?n5 ?h5); (case' m5 => assumption); (case' n5 => wtm_at "nin"); (case' h5 => wtm_at "sl")))
local macro_rules | `(tactic| wtm_at "st") => `(tactic| first
  | assumption
  | ((with_reducible refine' Mx.sqT0 ?m97 ?h97); (case' h97 => assumption); (case' m97 => wtm_at "mo"))
  | (refine' SqT.of ?h6; (case' h6 => wtm_at "hp"))
  | ((with_reducible refine' Mx.sqT0 ?m7 ?h7); (case' m7 => assumption); (case' h7 => wtm_at "st"))
  | ((with_reducible refine' Mx.sqT ?m8 ?n8 ?h8); (case' m8 => assumption); (case' n8 => wtm_at "nin"); (case' h8 => wtm_at "st")))
local macro_rules | `(tactic| wtm_at "mx") => `(tactic| first
  | assumption
  | exact Mx.refl
  | ((with_reducible refine' Mx.of0 ?h9); (case' h9 => assumption))
  | ((with_reducible refine' Mx.trans ?h10 ?m10); (case' m10 => first | assumption | ((with_reducible refine' Mx.of0 ?q10); (case' q10 => assumption))); (case' h10 => wtm_at "mx")))
local macro_rules | `(tactic| wtm_at "mo") => `(tactic| first
  | wtm_at "mx"
  | ((with_reducible refine' Mx.own ?m90 ?f90 ?k90); (case' k90 => assumption); (case' f90 => wtm_at "fr"); (case' m90 => wtm_at "mo"))
  | ((with_reducible refine' Mx.trans ?h91 ?m91); (case' m91 => first | assumption | ((with_reducible refine' Mx.of0 ?q91); (case' q91 => assumption))); (case' h91 => wtm_at "mo")))
local macro_rules | `(tactic| wtm_at "ne") => `(tactic| first
  | assumption
  | exact Ne.symm (by assumption)
  | ((with_reducible refine' ne_of_none ?x94 ?y94); (case' y94 => assumption); (case' x94 => wtm_at "hp"))
  | ((with_reducible refine' Ne.symm (ne_of_none ?x95 ?y95)); (case' y95 => assumption); (case' x95 => wtm_at "hp")))
local macro_rules | `(tactic| wtm_at "nin") => `(tactic| first
  | assumption
  | exact List.not_mem_nil
  | ((with_reducible refine' List.not_mem_cons_of_ne_of_not_mem ?h98 ?t98); (case' h98 => wtm_at "ne"); (case' t98 => wtm_at "nin")))
local macro_rules | `(tactic| wtm_at "g1") => `(tactic| first
  | ((with_reducible refine' g_var ?h11 ?k11); (case' h11 => exact rfl))
  | with_reducible refine' g_c ?_
  | with_reducible refine' g_op ?_
  | with_reducible refine' g_I0 ?_
  | ((with_reducible refine' g_I ?c12 ?k12); (case' c12 => wtm_at "ar"))
  | with_reducible refine' g_cons ?_
  | with_reducible refine' g_nil ?_
  | with_reducible refine' g_seq ?_
  | with_reducible refine' g_asg ?_
  | with_reducible refine' g_name ?_
  | with_reducible refine' g_ret ?_
  | with_reducible refine' g_if ?_
  | with_reducible refine' g_test ?_
  | with_reducible refine' g_tB ?_
  | with_reducible refine' g_bl ?_
  | ((with_reducible refine' g_eq ?h13 ?k13); (case' h13 => exact rfl))
  | ((with_reducible refine' g_ne ?h14 ?k14); (case' h14 => exact rfl))
  | with_reducible refine' g_CB ?_
  | with_reducible refine' g_call ?_
  | with_reducible refine' g_drop ?_
  | with_reducible refine' g_next ?_
  | with_reducible refine' g_not ?_
  | with_reducible refine' g_and ?_
  | with_reducible refine' g_or ?_
  | with_reducible refine' g_un ?_
  | with_reducible refine' g_U ?_
  | with_reducible refine' g_tup ?_
  | with_reducible refine' g_lst ?_
  | ((with_reducible refine' g_kNew ?h15 ?k15); (case' h15 => wtm_at "ln"); (case' k15 => intro _ _ _ _ _))
  | ((with_reducible refine' g_ixL ?h16 ?a16 ?k16); (case' h16 => wtm_at "sl"); (case' a16 => wtm_at "at"))
  | ((with_reducible refine' g_ixT ?h17 ?a17 ?k17); (case' h17 => wtm_at "st"); (case' a17 => wtm_at "at"))
  | with_reducible refine' g_slice ?_
  | with_reducible refine' g_part ?_
  | with_reducible refine' g_kPart ?_
  | with_reducible refine' g_noPart ?_
  | ((with_reducible refine' g_slL ?h18 ?k18); (case' h18 => wtm_at "sl"); (case' k18 => intro _ _ _ _ _))
  | ((with_reducible refine' g_cat ?h119 ?h219 ?l19 ?k19); (case' h119 => wtm_at "hp"); (case' h219 => wtm_at "hp"); (case' l19 => wtm_at "ln"); (case' k19 => intro _ _ _ _ _))
  | ((with_reducible refine' g_rep ?h120 ?h220 ?h320 ?l20 ?k20); (case' h120 => wtm_at "hp"); (case' h220 => wtm_at "ln"); (case' h320 => wtm_at "ln"); (case' l20 => wtm_at "ln"); (case' k20 => intro _ _ _ _ _))
  | ((with_reducible refine' g_append ?h21 ?l21 ?k21); (case' h21 => wtm_at "hp"); (case' l21 => wtm_at "ln"); (case' k21 => intro _ _ _))
  | ((with_reducible refine' g_kBM ?h22 ?k22); (case' h22 => wtm_at "sl"))
  | ((with_reducible refine' g_kBM0 ?h23 ?k23); (case' h23 => wtm_at "sl"))
  | ((with_reducible refine' g_kL ?h24 ?k24); (case' h24 => wtm_at "sl"))
  | ((with_reducible refine' g_kR1 ?h125 ?h225 ?k25); (case' h125 => wtm_at "ln"); (case' h225 => wtm_at "ln"))
  | ((with_reducible refine' g_kR2 ?h126 ?h226 ?h326 ?h426 ?k26); (case' h126 => wtm_at "ln"); (case' h226 => wtm_at "ln"); (case' h326 => wtm_at "ln"); (case' h426 => wtm_at "ln"))
  | ((with_reducible refine' g_lenL ?h27 ?k27); (case' h27 => wtm_at "sl"))
  | ((with_reducible refine' g_lenT ?h28 ?k28); (case' h28 => wtm_at "st"))
  | ((with_reducible refine' g_listL ?h29 ?k29); (case' h29 => wtm_at "sl"); (case' k29 => intro _ _ _ _ _))
  | ((with_reducible refine' g_tupleL ?h30 ?k30); (case' h30 => wtm_at "sl"); (case' k30 => intro _ _ _ _ _))
  | with_reducible refine' g_max ?_
  | with_reducible refine' g_min ?_
  | with_reducible refine' g_intB ?_
  | with_reducible refine' g_fld ?_
  | with_reducible refine' g_put ?_
  | with_reducible refine' g_dget ?_
  | with_reducible refine' g_isN ?_
  | with_reducible refine' g_notN ?_
  | with_reducible refine' g_ifE ?_
  | with_reducible refine' g_andV ?_
  | with_reducible refine' g_orV ?_
  | with_reducible refine' g_notV ?_
  | with_reducible refine' g_kIf ?_
  | with_reducible refine' g_chain ?_
  | with_reducible refine' g_kCh ?_
  | with_reducible refine' g_sub ?_
  | ((with_reducible refine' g_setI ?h92 ?e92 ?j92 ?k92); (case' h92 => wtm_at "hp"); (case' e92 => first | exact rfl | assumption); (case' j92 => wtm_at "ln"); (case' k92 => intro _ _ _))
  | ((with_reducible refine' g_setL ?h89 ?i89 ?k89); (case' h89 => wtm_at "hp"); (case' i89 => exact ixE rfl (by wtm_at "ln")); (case' k89 => intro _ _ _))
  | ((with_reducible refine' g_gtup ?h93 ?e93 ?k93); (case' h93 => wtm_at "st"); (case' e93 => exact rfl))
  | with_reducible refine' g_gcons ?_
  | with_reducible refine' g_gnil ?_
  | with_reducible refine' g_par ?_
  | with_reducible refine' g_kPar ?_
  | with_reducible refine' g_meth ?_
  | with_reducible refine' g_bm ?_
  | with_reducible refine' g_bm0 ?_
  | with_reducible refine' g_raise ?_
  | with_reducible refine' g_for ?_
  | with_reducible refine' g_iR1 ?_
  | with_reducible refine' g_iR2 ?_
  | with_reducible refine' g_iL ?_
  | with_reducible refine' g_lc ?_
  | with_reducible refine' g_retN ?_
  | with_reducible refine' g_no (b := false) rfl ?_
  | with_reducible refine' g_yes (b := true) rfl ?_)
local macro_rules | `(tactic| wtm_at "go") => `(tactic| repeat (wtm_at "g1"))
local macro_rules | `(tactic| wtm_at "gs") => `(tactic| repeat ((fail_if_success (with_reducible refine' g_ifE ?_)); wtm_at "g1"))
local macro_rules | `(tactic| wtm_at "gi") => `(tactic| repeat ((fail_if_success (with_reducible refine' g_if ?_)); wtm_at "g1"))
local macro_rules | `(tactic| wtm_at "gr") => `(tactic| repeat ((fail_if_success (with_reducible refine' g_ret ?_)); wtm_at "g1"))
local macro_rules | `(tactic| wtm_at "gq") => `(tactic| repeat ((fail_if_success (with_reducible refine' g_asg ?_)); wtm_at "g1"))
/-! ### deeds, told and gone through -/
inductive Dd where
  | stamp (a : Int) | back (a : Int) | top (z : Cd) | up
/-- a deed's tuple -/
def DdAt (H : Hp) (t : Addr) : Dd → Prop
  | .stamp a => H t = some (.tup [.str "stamp", .int a])
  | .back a => H t = some (.tup [.str "give_back", .int a])
  | .top z => ∃ c, H t = some (.tup [.str "top_up", .ref c]) ∧ H c = some (.tup z.vs)
  | .up => H t = some (.tup [.str "come_up"])
theorem mx_tup {S : List Addr} {H H' : Hp} {a : Addr} {xs : List V} (m : Mx S H H') (n : NoTup H S) (h : H a = some (.tup xs)) : H' a = some (.tup xs) := m a _ h fun z => (n a z _ h).1 xs rfl
theorem DdAt.mx {S : List Addr} {H H' : Hp} {t : Addr} {d : Dd} (h : DdAt H t d) (m : Mx S H H') (n : NoTup H S) : DdAt H' t d := by
  cases d with
  | stamp a => exact mx_tup m n h
  | back a => exact mx_tup m n h
  | up => exact mx_tup m n h
  | top z => obtain ⟨c, h1, h2⟩ := h; exact ⟨c, mx_tup m n h1, mx_tup m n h2⟩
theorem DdAt.mx0 {H H' : Hp} {t : Addr} {d : Dd} (h : DdAt H t d) (m : Mx [] H H') : DdAt H' t d := h.mx m noTup0
def Rf.word : Rf → Str
  | .down => "Down"
  | .up => "Up"
  | .amount => "BadAmount"
  | .code => "BadCode"
  | .short => "Short"
  | .bank => "NoBank"
  | .number => "BadNumber"
  | .meter => "NoMeter"
def refR (μ : Mt) : Dd → Option Rf
  | .stamp a => stampR μ a
  | .back a => stampR μ a
  | .top z => topR μ z
  | .up => none
def wordOf : Option Rf → Str
  | none => ""
  | some r => r.word
def Dd.small : Dd → Prop
  | .stamp _ => True
  | .back _ => True
  | .top z => Bd z.m ∧ Bd z.c
  | .up => True
section
variable {P : Program} {w : World} {K : PySem.W.Frag} {mg : Str → Option Value} {base : Heap}
local macro_rules | `(tactic| wtm_at "g1") => `(tactic| first
  | ((with_reducible refine' g_fOwn (by assumption) ?h201 ?k201); (case' h201 => wtm_at "hp"))
  | ((with_reducible refine' g_fKey (by assumption) ?h202 ?k202); (case' h202 => wtm_at "hp"))
  | ((with_reducible refine' g_fMem (by assumption) ?h203 ?k203); (case' h203 => wtm_at "hp"))
  | ((with_reducible refine' g_fPri (by assumption) ?h204 ?k204); (case' h204 => wtm_at "hp"))
  | ((with_reducible refine' g_fAwa (by assumption) ?h205 ?k205); (case' h205 => wtm_at "hp"))
  | ((with_reducible refine' g_pAwa (by assumption) ?h206 ?k206); (case' h206 => wtm_at "hp"); (case' k206 => intro _ _ _))
  | ((with_reducible refine' g_kMeth ?h207 ?l207 ?k207); (case' h207 => wtm_at "hp"); (case' l207 => exact rfl)))

local macro_rules | `(tactic| wtm_at "g1") => `(tactic| first
  | ((with_reducible refine' g_dNum ?h311 ?k311); (case' h311 => wtm_at "hp"))
  | ((with_reducible refine' g_dKey ?h312 ?k312); (case' h312 => wtm_at "hp"))
  | ((with_reducible refine' g_dCe ?h313 ?k313); (case' h313 => wtm_at "hp"))
  | ((with_reducible refine' g_dSt ?h314 ?k314); (case' h314 => wtm_at "hp"))
  | ((with_reducible refine' g_dUp ?h315 ?k315); (case' h315 => wtm_at "hp"))
  | ((with_reducible refine' g_kDGetS ?h301 ?l301 ?k301); (case' h301 => wtm_at "hp"); (case' l301 => exact rfl))
  | (with_reducible refine' g_dput ?_)
  | (with_reducible refine' g_iK ?_)
  | ((with_reducible refine' g_disp ?k305); (case' k305 => intro _ _ _ _ _))
  | (with_reducible refine' g_pcons ?_)
  | (with_reducible refine' g_pnil ?_)
  | ((with_reducible refine' g_kDisp ?h306 ?e306 ?f306 ?l306 ?k306); (case' h306 => wtm_at "hp"); (case' e306 => exact rfl); (case' f306 => exact rfl); (case' l306 => wtm_at "ln"); (case' k306 => intro _ _ _))
  | ((with_reducible refine' g_pUp ?h302 ?k302); (case' h302 => wtm_at "hp"); (case' k302 => intro _ _ _))
  | ((with_reducible refine' g_pSt ?h303 ?k303); (case' h303 => wtm_at "hp"); (case' k303 => intro _ _ _))
  | ((with_reducible refine' g_pCe ?h304 ?k304); (case' h304 => wtm_at "hp"); (case' k304 => intro _ _ _)))

/-- the word of a refusal -/
def spLWord : Sp := fun vs H Q _ => ∃ (q qc qs t : Addr) (μ : Mt) (d : Dd), vs = [.ref q, .ref t] ∧ LmAt K H q qc qs μ ∧ Any μ.cells ∧ Sm μ ∧ DdAt H t d ∧ d ≠ .up ∧ ∀ H', Mx [] H H' → Q (.str (wordOf (refR μ d))) H'
end
end Fk
namespace Fk
open PySem PySem.Spec PyProof.Rows L2
local macro_rules | `(tactic| wtm_at "ln") => `(tactic| first
  | omega
  | (simp only [List.length_cons, List.length_nil, List.length_map, List.length_append, List.length_replicate, List.length_take, List.length_drop, List.length_set]; omega)
  | (with_unfolding_all exact (by decide)))
local macro_rules | `(tactic| wtm_at "ar") => `(tactic| first
  | ((with_reducible show CMulW _ _); (refine' mulS ?_ ?_ <;> omega))
  | ((with_reducible show CDivW _ _); (refine' divS ?_ ?_ <;> omega))
  | ((with_reducible show CPow _ _); exact ⟨by decide, by decide, by decide⟩)
  | (show (0 : Int) < _; omega)
  | (with_unfolding_all exact (by decide)))
local macro_rules | `(tactic| wtm_at "at") => `(tactic| first
  | assumption
  | (refine' cl_atE ?e80 ?h80; (case' e80 => first | exact rfl | assumption); (case' h80 => wtm_at "ln"))
  | exact rfl)
local macro_rules | `(tactic| wtm_at "fr") => `(tactic| first
  | assumption
  | ((with_reducible refine' Mx.free0 ?m99 ?h99); (case' h99 => assumption); (case' m99 => wtm_at "mo")))
local macro_rules | `(tactic| wtm_at "hp") => `(tactic| first
  | assumption
  | ((with_reducible refine' Mx.get0 ?m1 ?h1); (case' m1 => assumption); (case' h1 => wtm_at "hp"))
  | ((with_reducible refine' Mx.get ?m2 ?n2 ?h2); (case' m2 => assumption); (case' n2 => wtm_at "nin"); (case' h2 => wtm_at "hp")))
local macro_rules | `(tactic| wtm_at "sl") => `(tactic| first
  | assumption
  | ((with_reducible refine' Mx.sqL0 ?m96 ?h96); (case' h96 => assumption); (case' m96 => wtm_at "mo"))
  | (refine' SqL.of ?h3; (case' h3 => wtm_at "hp"))
  | ((with_reducible refine' Mx.sqL0 ?m4 ?h4); (case' m4 => assumption); (case' h4 => wtm_at "sl"))
  | ((with_reducible refine' Mx.sqL ?m5 ?n5 ?h5); (case' m5 => assumption); (case' n5 => wtm_at "nin"); (case' h5 => wtm_at "sl")))
local macro_rules | `(tactic| wtm_at "st") => `(tactic| first
  | assumption
  | ((with_reducible refine' Mx.sqT0 ?m97 ?h97); (case' h97 => assumption); (case' m97 => wtm_at "mo"))
  | (refine' SqT.of ?h6; (case' h6 => wtm_at "hp"))
  | ((with_reducible refine' Mx.sqT0 ?m7 ?h7); (case' m7 => assumption); (case' h7 => wtm_at "st"))
  | ((with_reducible refine' Mx.sqT ?m8 ?n8 ?h8); (case' m8 => assumption); (case' n8 => wtm_at "nin"); (case' h8 => wtm_at "st")))
local macro_rules | `(tactic| wtm_at "mx") => `(tactic| first
  | assumption
  | exact Mx.refl
  | ((with_reducible refine' Mx.of0 ?h9); (case' h9 => assumption))
  | ((with_reducible refine' Mx.trans ?h10 ?m10); (case' m10 => first | assumption | ((with_reducible refine' Mx.of0 ?q10); (case' q10 => assumption))); (case' h10 => wtm_at "mx")))
local macro_rules | `(tactic| wtm_at "mo") => `(tactic| first
  | wtm_at "mx"
  | ((with_reducible refine' Mx.own ?m90 ?f90 ?k90); (case' k90 => assumption); (case' f90 => wtm_at "fr"); (case' m90 => wtm_at "mo"))
  | ((with_reducible refine' Mx.trans ?h91 ?m91); (case' m91 => first | assumption | ((with_reducible refine' Mx.of0 ?q91); (case' q91 => assumption))); (case' h91 => wtm_at "mo")))
local macro_rules | `(tactic| wtm_at "ne") => `(tactic| first
  | assumption
  | exact Ne.symm (by assumption)
  | ((with_reducible refine' ne_of_none ?x94 ?y94); (case' y94 => assumption); (case' x94 => wtm_at "hp"))
  | ((with_reducible refine' Ne.symm (ne_of_none ?x95 ?y95)); (case' y95 => assumption); (case' x95 => wtm_at "hp")))
local macro_rules | `(tactic| wtm_at "nin") => `(tactic| first
  | assumption
  | exact List.not_mem_nil
  | ((with_reducible refine' List.not_mem_cons_of_ne_of_not_mem ?h98 ?t98); (case' h98 => wtm_at "ne"); (case' t98 => wtm_at "nin")))
local macro_rules | `(tactic| wtm_at "g1") => `(tactic| first
  | ((with_reducible refine' g_var ?h11 ?k11); (case' h11 => exact rfl))
  | with_reducible refine' g_c ?_
  | with_reducible refine' g_op ?_
  | with_reducible refine' g_I0 ?_
  | ((with_reducible refine' g_I ?c12 ?k12); (case' c12 => wtm_at "ar"))
  | with_reducible refine' g_cons ?_
  | with_reducible refine' g_nil ?_
  | with_reducible refine' g_seq ?_
  | with_reducible refine' g_asg ?_
  | with_reducible refine' g_name ?_
  | with_reducible refine' g_ret ?_
  | with_reducible refine' g_if ?_
  | with_reducible refine' g_test ?_
  | with_reducible refine' g_tB ?_
  | with_reducible refine' g_bl ?_
  | ((with_reducible refine' g_eq ?h13 ?k13); (case' h13 => exact rfl))
  | ((with_reducible refine' g_ne ?h14 ?k14); (case' h14 => exact rfl))
  | with_reducible refine' g_CB ?_
  | with_reducible refine' g_call ?_
  | with_reducible refine' g_drop ?_
  | with_reducible refine' g_next ?_
  | with_reducible refine' g_not ?_
  | with_reducible refine' g_and ?_
  | with_reducible refine' g_or ?_
  | with_reducible refine' g_un ?_
  | with_reducible refine' g_U ?_
  | with_reducible refine' g_tup ?_
  | with_reducible refine' g_lst ?_
  | ((with_reducible refine' g_kNew ?h15 ?k15); (case' h15 => wtm_at "ln"); (case' k15 => intro _ _ _ _ _))
  | ((with_reducible refine' g_ixL ?h16 ?a16 ?k16); (case' h16 => wtm_at "sl"); (case' a16 => wtm_at "at"))
  | ((with_reducible refine' g_ixT ?h17 ?a17 ?k17); (case' h17 => wtm_at "st"); (case' a17 => wtm_at "at"))
  | with_reducible refine' g_slice ?_
  | with_reducible refine' g_part ?_
  | with_reducible refine' g_kPart ?_
  | with_reducible refine' g_noPart ?_
  | ((with_reducible refine' g_slL ?h18 ?k18); (case' h18 => wtm_at "sl"); (case' k18 => intro _ _ _ _ _))
  | ((with_reducible refine' g_cat ?h119 ?h219 ?l19 ?k19); (case' h119 => wtm_at "hp"); (case' h219 => wtm_at "hp"); (case' l19 => wtm_at "ln"); (case' k19 => intro _ _ _ _ _))
  | ((with_reducible refine' g_rep ?h120 ?h220 ?h320 ?l20 ?k20); (case' h120 => wtm_at "hp"); (case' h220 => wtm_at "ln"); (case' h320 => wtm_at "ln"); (case' l20 => wtm_at "ln"); (case' k20 => intro _ _ _ _ _))
  | ((with_reducible refine' g_append ?h21 ?l21 ?k21); (case' h21 => wtm_at "hp"); (case' l21 => wtm_at "ln"); (case' k21 => intro _ _ _))
  | ((with_reducible refine' g_kBM ?h22 ?k22); (case' h22 => wtm_at "sl"))
  | ((with_reducible refine' g_kBM0 ?h23 ?k23); (case' h23 => wtm_at "sl"))
  | ((with_reducible refine' g_kL ?h24 ?k24); (case' h24 => wtm_at "sl"))
  | ((with_reducible refine' g_kR1 ?h125 ?h225 ?k25); (case' h125 => wtm_at "ln"); (case' h225 => wtm_at "ln"))
  | ((with_reducible refine' g_kR2 ?h126 ?h226 ?h326 ?h426 ?k26); (case' h126 => wtm_at "ln"); (case' h226 => wtm_at "ln"); (case' h326 => wtm_at "ln"); (case' h426 => wtm_at "ln"))
  | ((with_reducible refine' g_lenL ?h27 ?k27); (case' h27 => wtm_at "sl"))
  | ((with_reducible refine' g_lenT ?h28 ?k28); (case' h28 => wtm_at "st"))
  | ((with_reducible refine' g_listL ?h29 ?k29); (case' h29 => wtm_at "sl"); (case' k29 => intro _ _ _ _ _))
  | ((with_reducible refine' g_tupleL ?h30 ?k30); (case' h30 => wtm_at "sl"); (case' k30 => intro _ _ _ _ _))
  | with_reducible refine' g_max ?_
  | with_reducible refine' g_min ?_
  | with_reducible refine' g_intB ?_
  | with_reducible refine' g_fld ?_
  | with_reducible refine' g_put ?_
  | with_reducible refine' g_dget ?_
  | with_reducible refine' g_isN ?_
  | with_reducible refine' g_notN ?_
  | with_reducible refine' g_ifE ?_
  | with_reducible refine' g_andV ?_
  | with_reducible refine' g_orV ?_
  | with_reducible refine' g_notV ?_
  | with_reducible refine' g_kIf ?_
  | with_reducible refine' g_chain ?_
  | with_reducible refine' g_kCh ?_
  | with_reducible refine' g_sub ?_
  | ((with_reducible refine' g_setI ?h92 ?e92 ?j92 ?k92); (case' h92 => wtm_at "hp"); (case' e92 => first | exact rfl | assumption); (case' j92 => wtm_at "ln"); (case' k92 => intro _ _ _))
  | ((with_reducible refine' g_setL ?h89 ?i89 ?k89); (case' h89 => wtm_at "hp"); (case' i89 => exact ixE rfl (by wtm_at "ln")); (case' k89 => intro _ _ _))
  | ((with_reducible refine' g_gtup ?h93 ?e93 ?k93); (case' h93 => wtm_at "st"); (case' e93 => exact rfl))
  | with_reducible refine' g_gcons ?_
  | with_reducible refine' g_gnil ?_
  | with_reducible refine' g_par ?_
  | with_reducible refine' g_kPar ?_
  | with_reducible refine' g_meth ?_
  | with_reducible refine' g_bm ?_
  | with_reducible refine' g_bm0 ?_
  | with_reducible refine' g_raise ?_
  | with_reducible refine' g_for ?_
  | with_reducible refine' g_iR1 ?_
  | with_reducible refine' g_iR2 ?_
  | with_reducible refine' g_iL ?_
  | with_reducible refine' g_lc ?_
  | with_reducible refine' g_retN ?_
  | with_reducible refine' g_no (b := false) rfl ?_
  | with_reducible refine' g_yes (b := true) rfl ?_)
local macro_rules | `(tactic| wtm_at "go") => `(tactic| repeat (wtm_at "g1"))
local macro_rules | `(tactic| wtm_at "gs") => `(tactic| repeat ((fail_if_success (with_reducible refine' g_ifE ?_)); wtm_at "g1"))
local macro_rules | `(tactic| wtm_at "gi") => `(tactic| repeat ((fail_if_success (with_reducible refine' g_if ?_)); wtm_at "g1"))
local macro_rules | `(tactic| wtm_at "gr") => `(tactic| repeat ((fail_if_success (with_reducible refine' g_ret ?_)); wtm_at "g1"))
local macro_rules | `(tactic| wtm_at "gq") => `(tactic| repeat ((fail_if_success (with_reducible refine' g_asg ?_)); wtm_at "g1"))
/-! ### what a deed is to tell -/
def topChsL (μ : Mt) (z : Cd) : List (Nat × Int) := [(3, bk μ 3 + z.a), (4, bk μ 4 + z.a), (5, bk μ 5 + 1)]
def chsOf (μ : Mt) : Dd → List (Nat × Int)
  | .stamp a => stampChs μ a
  | .back a => backChs μ a
  | .top z => topChsL μ z
  | .up => []
def toldOf (μ : Mt) : Dd → PyData
  | .stamp _ => .int (bk μ 8 + 1)
  | .back a => cdD (mkCd μ.key μ.num (bk μ 6 + 1) a 2)
  | .top z => .int z.a
  | .up => .none
/-- a deed gone through: what it tells, what the meter is then -/
def dueM (μ : Mt) (d : Dd) (cut : Option Nat) : PyData × Mt :=
  match d with
  | .up => if μ.up = true then (.str "Up", μ) else match owed μ with
    | none => (.bool true, { μ with up := true })
    | some s => if cut = some 0 then (.none, μ) else (.bool true, { μ with stamps := μ.stamps ++ [s], up := true })
  | d => match refR μ d with
    | some r => (.str r.word, μ)
    | none => (if (runM μ (chsOf μ d) cut).1 = true then toldOf μ d else .none, (runM μ (chsOf μ d) cut).2)
theorem dueM_ref {μ : Mt} {d : Dd} {cut : Option Nat} {r : Rf} (hd : d ≠ .up) (h : refR μ d = some r) : dueM μ d cut = (.str r.word, μ) := by
  cases d with
  | up => exact absurd rfl hd
  | stamp a => simp only [dueM, h]
  | back a => simp only [dueM, h]
  | top z => simp only [dueM, h]
theorem dueM_run {μ : Mt} {d : Dd} {cut : Option Nat} (hd : d ≠ .up) (h : refR μ d = none) : dueM μ d cut = (if (runM μ (chsOf μ d) cut).1 = true then toldOf μ d else .none, (runM μ (chsOf μ d) cut).2) := by
  cases d with
  | up => exact absurd rfl hd
  | stamp a => simp only [dueM, h]
  | back a => simp only [dueM, h]
  | top z => simp only [dueM, h]
theorem chsOf_ok (μ : Mt) (d : Dd) : Chs (chsOf μ d) := by
  cases d with
  | stamp a => exact stampChs_ok μ a
  | back a => exact backChs_ok μ a
  | top z => intro c hc; simp [chsOf, topChsL] at hc; rcases hc with rfl | rfl | rfl <;> simp
  | up => intro c hc; simp [chsOf] at hc
theorem chsOf_nd (μ : Mt) (d : Dd) : ((chsOf μ d).map (·.1)).Nodup := by
  cases d <;> simp [chsOf, stampChs, backChs, topChsL]
theorem word_ne (r : Rf) : ¬ r.word = "" := by cases r <;> decide +kernel
section
variable {P : Program} {w : World} {K : PySem.W.Frag} {mg : Str → Option Value} {base : Heap}
local macro_rules | `(tactic| wtm_at "g1") => `(tactic| first
  | ((with_reducible refine' g_fOwn (by assumption) ?h201 ?k201); (case' h201 => wtm_at "hp"))
  | ((with_reducible refine' g_fKey (by assumption) ?h202 ?k202); (case' h202 => wtm_at "hp"))
  | ((with_reducible refine' g_fMem (by assumption) ?h203 ?k203); (case' h203 => wtm_at "hp"))
  | ((with_reducible refine' g_fPri (by assumption) ?h204 ?k204); (case' h204 => wtm_at "hp"))
  | ((with_reducible refine' g_fAwa (by assumption) ?h205 ?k205); (case' h205 => wtm_at "hp"))
  | ((with_reducible refine' g_pAwa (by assumption) ?h206 ?k206); (case' h206 => wtm_at "hp"); (case' k206 => intro _ _ _))
  | ((with_reducible refine' g_kMeth ?h207 ?l207 ?k207); (case' h207 => wtm_at "hp"); (case' l207 => exact rfl)))

local macro_rules | `(tactic| wtm_at "g1") => `(tactic| first
  | ((with_reducible refine' g_dNum ?h311 ?k311); (case' h311 => wtm_at "hp"))
  | ((with_reducible refine' g_dKey ?h312 ?k312); (case' h312 => wtm_at "hp"))
  | ((with_reducible refine' g_dCe ?h313 ?k313); (case' h313 => wtm_at "hp"))
  | ((with_reducible refine' g_dSt ?h314 ?k314); (case' h314 => wtm_at "hp"))
  | ((with_reducible refine' g_dUp ?h315 ?k315); (case' h315 => wtm_at "hp"))
  | ((with_reducible refine' g_kDGetS ?h301 ?l301 ?k301); (case' h301 => wtm_at "hp"); (case' l301 => exact rfl))
  | (with_reducible refine' g_dput ?_)
  | (with_reducible refine' g_iK ?_)
  | ((with_reducible refine' g_disp ?k305); (case' k305 => intro _ _ _ _ _))
  | (with_reducible refine' g_pcons ?_)
  | (with_reducible refine' g_pnil ?_)
  | ((with_reducible refine' g_kDisp ?h306 ?e306 ?f306 ?l306 ?k306); (case' h306 => wtm_at "hp"); (case' e306 => exact rfl); (case' f306 => exact rfl); (case' l306 => wtm_at "ln"); (case' k306 => intro _ _ _))
  | ((with_reducible refine' g_pUp ?h302 ?k302); (case' h302 => wtm_at "hp"); (case' k302 => intro _ _ _))
  | ((with_reducible refine' g_pSt ?h303 ?k303); (case' h303 => wtm_at "hp"); (case' k303 => intro _ _ _))
  | ((with_reducible refine' g_pCe ?h304 ?k304); (case' h304 => wtm_at "hp"); (case' k304 => intro _ _ _)))

def spLDue : Sp := fun vs H Q _ => ∃ (q qc qs t : Addr) (μ : Mt) (d : Dd) (cut : Option Nat), vs = [.ref q, .ref t, cutO cut] ∧ LmAt K H q qc qs μ ∧ Any μ.cells ∧ Sm μ ∧ μ.stamps.length < 1000 ∧ DdAt H t d ∧
  ∀ v qs' H', (qs' = qs ∨ H qs' = none) → Mx [q, qc, qs] H H' → LmAt K H' q qc qs' (dueM μ d cut).2 → Dp K H' v (dueM μ d cut).1 → Q v H'
end
end Fk
namespace Fk
open PySem PySem.Spec PyProof.Rows L2
local macro_rules | `(tactic| wtm_at "ln") => `(tactic| first
  | omega
  | (simp only [List.length_cons, List.length_nil, List.length_map, List.length_append, List.length_replicate, List.length_take, List.length_drop, List.length_set]; omega)
  | (with_unfolding_all exact (by decide)))
local macro_rules | `(tactic| wtm_at "ar") => `(tactic| first
  | ((with_reducible show CMulW _ _); (refine' mulS ?_ ?_ <;> omega))
  | ((with_reducible show CDivW _ _); (refine' divS ?_ ?_ <;> omega))
  | ((with_reducible show CPow _ _); exact ⟨by decide, by decide, by decide⟩)
  | (show (0 : Int) < _; omega)
  | (with_unfolding_all exact (by decide)))
local macro_rules | `(tactic| wtm_at "at") => `(tactic| first
  | assumption
  | (refine' cl_atE ?e80 ?h80; (case' e80 => first | exact rfl | assumption); (case' h80 => wtm_at "ln"))
  | exact rfl)
local macro_rules | `(tactic| wtm_at "fr") => `(tactic| first
  | assumption
  | ((with_reducible refine' Mx.free0 ?m99 ?h99); (case' h99 => assumption); (case' m99 => wtm_at "mo")))
local macro_rules | `(tactic| wtm_at "hp") => `(tactic| first
  | assumption
  | ((with_reducible refine' Mx.get0 ?m1 ?h1); (case' m1 => assumption); (case' h1 => wtm_at "hp"))
  | ((with_reducible refine' Mx.get ?m2 ?n2 ?h2); (case' m2 => assumption); (case' n2 => wtm_at "nin"); (case' h2 => wtm_at "hp")))
local macro_rules | `(tactic| wtm_at "sl") => `(tactic| first
  | assumption
  | ((with_reducible refine' Mx.sqL0 ?m96 ?h96); (case' h96 => assumption); (case' m96 => wtm_at "mo"))
  | (refine' SqL.of ?h3; (case' h3 => wtm_at "hp"))
  | ((with_reducible refine' Mx.sqL0 ?m4 ?h4); (case' m4 => assumption); (case' h4 => wtm_at "sl"))
  | ((with_reducible refine' Mx.sqL ?m5 ?n5 ?h5); (case' m5 => assumption); (case' n5 => wtm_at "nin"); (case' h5 => wtm_at "sl")))
local macro_rules | `(tactic| wtm_at "st") => `(tactic| first
  | assumption
  | ((with_reducible refine' Mx.sqT0 ?m97 ?h97); (case' h97 => assumption); (case' m97 => wtm_at "mo"))
  | (refine' SqT.of ?h6; (case' h6 => wtm_at "hp"))
  | ((with_reducible refine' Mx.sqT0 ?m7 ?h7); (case' m7 => assumption); (case' h7 => wtm_at "st"))
  | ((with_reducible refine' Mx.sqT ?m8 ?n8 ?h8); (case' m8 => assumption); (case' n8 => wtm_at "nin"); (case' h8 => wtm_at "st")))
local macro_rules | `(tactic| wtm_at "mx") => `(tactic| first
  | assumption
  | exact Mx.refl
  | ((with_reducible refine' Mx.of0 ?h9); (case' h9 => assumption))
  | ((with_reducible refine' Mx.trans ?h10 ?m10); (case' m10 => first | assumption | ((with_reducible refine' Mx.of0 ?q10); (case' q10 => assumption))); (case' h10 => wtm_at "mx")))
local macro_rules | `(tactic| wtm_at "mo") => `(tactic| first
  | wtm_at "mx"
  | ((with_reducible refine' Mx.own ?m90 ?f90 ?k90); (case' k90 => assumption); (case' f90 => wtm_at "fr"); (case' m90 => wtm_at "mo"))
  | ((with_reducible refine' Mx.trans ?h91 ?m91); (case' m91 => first | assumption | ((with_reducible refine' Mx.of0 ?q91); (case' q91 => assumption))); (case' h91 => wtm_at "mo")))
local macro_rules | `(tactic| wtm_at "ne") => `(tactic| first
  | assumption
  | exact Ne.symm (by assumption)
  | ((with_reducible refine' ne_of_none ?x94 ?y94); (case' y94 => assumption); (case' x94 => wtm_at "hp"))
  | ((with_reducible refine' Ne.symm (ne_of_none ?x95 ?y95)); (case' y95 => assumption); (case' x95 => wtm_at "hp")))
local macro_rules | `(tactic| wtm_at "nin") => `(tactic| first
  | assumption
  | exact List.not_mem_nil
  | ((with_reducible refine' List.not_mem_cons_of_ne_of_not_mem ?h98 ?t98); (case' h98 => wtm_at "ne"); (case' t98 => wtm_at "nin")))
local macro_rules | `(tactic| wtm_at "g1") => `(tactic| first
  | ((with_reducible refine' g_var ?h11 ?k11); (case' h11 => exact rfl))
  | with_reducible refine' g_c ?_
  | with_reducible refine' g_op ?_
  | with_reducible refine' g_I0 ?_
  | ((with_reducible refine' g_I ?c12 ?k12); (case' c12 => wtm_at "ar"))
  | with_reducible refine' g_cons ?_
  | with_reducible refine' g_nil ?_
  | with_reducible refine' g_seq ?_
  | with_reducible refine' g_asg ?_
  | with_reducible refine' g_name ?_
  | with_reducible refine' g_ret ?_
  | with_reducible refine' g_if ?_
  | with_reducible refine' g_test ?_
  | with_reducible refine' g_tB ?_
  | with_reducible refine' g_bl ?_
  | ((with_reducible refine' g_eq ?h13 ?k13); (case' h13 => exact rfl))
  | ((with_reducible refine' g_ne ?h14 ?k14); (case' h14 => exact rfl))
  | with_reducible refine' g_CB ?_
  | with_reducible refine' g_call ?_
  | with_reducible refine' g_drop ?_
  | with_reducible refine' g_next ?_
  | with_reducible refine' g_not ?_
  | with_reducible refine' g_and ?_
  | with_reducible refine' g_or ?_
  | with_reducible refine' g_un ?_
  | with_reducible refine' g_U ?_
  | with_reducible refine' g_tup ?_
  | with_reducible refine' g_lst ?_
  | ((with_reducible refine' g_kNew ?h15 ?k15); (case' h15 => wtm_at "ln"); (case' k15 => intro _ _ _ _ _))
  | ((with_reducible refine' g_ixL ?h16 ?a16 ?k16); (case' h16 => wtm_at "sl"); (case' a16 => wtm_at "at"))
  | ((with_reducible refine' g_ixT ?h17 ?a17 ?k17); (case' h17 => wtm_at "st"); (case' a17 => wtm_at "at"))
  | with_reducible refine' g_slice ?_
  | with_reducible refine' g_part ?_
  | with_reducible refine' g_kPart ?_
  | with_reducible refine' g_noPart ?_
  | ((with_reducible refine' g_slL ?h18 ?k18); (case' h18 => wtm_at "sl"); (case' k18 => intro _ _ _ _ _))
  | ((with_reducible refine' g_cat ?h119 ?h219 ?l19 ?k19); (case' h119 => wtm_at "hp"); (case' h219 => wtm_at "hp"); (case' l19 => wtm_at "ln"); (case' k19 => intro _ _ _ _ _))
  | ((with_reducible refine' g_rep ?h120 ?h220 ?h320 ?l20 ?k20); (case' h120 => wtm_at "hp"); (case' h220 => wtm_at "ln"); (case' h320 => wtm_at "ln"); (case' l20 => wtm_at "ln"); (case' k20 => intro _ _ _ _ _))
  | ((with_reducible refine' g_append ?h21 ?l21 ?k21); (case' h21 => wtm_at "hp"); (case' l21 => wtm_at "ln"); (case' k21 => intro _ _ _))
  | ((with_reducible refine' g_kBM ?h22 ?k22); (case' h22 => wtm_at "sl"))
  | ((with_reducible refine' g_kBM0 ?h23 ?k23); (case' h23 => wtm_at "sl"))
  | ((with_reducible refine' g_kL ?h24 ?k24); (case' h24 => wtm_at "sl"))
  | ((with_reducible refine' g_kR1 ?h125 ?h225 ?k25); (case' h125 => wtm_at "ln"); (case' h225 => wtm_at "ln"))
  | ((with_reducible refine' g_kR2 ?h126 ?h226 ?h326 ?h426 ?k26); (case' h126 => wtm_at "ln"); (case' h226 => wtm_at "ln"); (case' h326 => wtm_at "ln"); (case' h426 => wtm_at "ln"))
  | ((with_reducible refine' g_lenL ?h27 ?k27); (case' h27 => wtm_at "sl"))
  | ((with_reducible refine' g_lenT ?h28 ?k28); (case' h28 => wtm_at "st"))
  | ((with_reducible refine' g_listL ?h29 ?k29); (case' h29 => wtm_at "sl"); (case' k29 => intro _ _ _ _ _))
  | ((with_reducible refine' g_tupleL ?h30 ?k30); (case' h30 => wtm_at "sl"); (case' k30 => intro _ _ _ _ _))
  | with_reducible refine' g_max ?_
  | with_reducible refine' g_min ?_
  | with_reducible refine' g_intB ?_
  | with_reducible refine' g_fld ?_
  | with_reducible refine' g_put ?_
  | with_reducible refine' g_dget ?_
  | with_reducible refine' g_isN ?_
  | with_reducible refine' g_notN ?_
  | with_reducible refine' g_ifE ?_
  | with_reducible refine' g_andV ?_
  | with_reducible refine' g_orV ?_
  | with_reducible refine' g_notV ?_
  | with_reducible refine' g_kIf ?_
  | with_reducible refine' g_chain ?_
  | with_reducible refine' g_kCh ?_
  | with_reducible refine' g_sub ?_
  | ((with_reducible refine' g_setI ?h92 ?e92 ?j92 ?k92); (case' h92 => wtm_at "hp"); (case' e92 => first | exact rfl | assumption); (case' j92 => wtm_at "ln"); (case' k92 => intro _ _ _))
  | ((with_reducible refine' g_setL ?h89 ?i89 ?k89); (case' h89 => wtm_at "hp"); (case' i89 => exact ixE rfl (by wtm_at "ln")); (case' k89 => intro _ _ _))
  | ((with_reducible refine' g_gtup ?h93 ?e93 ?k93); (case' h93 => wtm_at "st"); (case' e93 => exact rfl))
  | with_reducible refine' g_gcons ?_
  | with_reducible refine' g_gnil ?_
  | with_reducible refine' g_par ?_
  | with_reducible refine' g_kPar ?_
  | with_reducible refine' g_meth ?_
  | with_reducible refine' g_bm ?_
  | with_reducible refine' g_bm0 ?_
  | with_reducible refine' g_raise ?_
  | with_reducible refine' g_for ?_
  | with_reducible refine' g_iR1 ?_
  | with_reducible refine' g_iR2 ?_
  | with_reducible refine' g_iL ?_
  | with_reducible refine' g_lc ?_
  | with_reducible refine' g_retN ?_
  | with_reducible refine' g_no (b := false) rfl ?_
  | with_reducible refine' g_yes (b := true) rfl ?_)
local macro_rules | `(tactic| wtm_at "go") => `(tactic| repeat (wtm_at "g1"))
local macro_rules | `(tactic| wtm_at "gs") => `(tactic| repeat ((fail_if_success (with_reducible refine' g_ifE ?_)); wtm_at "g1"))
local macro_rules | `(tactic| wtm_at "gi") => `(tactic| repeat ((fail_if_success (with_reducible refine' g_if ?_)); wtm_at "g1"))
local macro_rules | `(tactic| wtm_at "gr") => `(tactic| repeat ((fail_if_success (with_reducible refine' g_ret ?_)); wtm_at "g1"))
local macro_rules | `(tactic| wtm_at "gq") => `(tactic| repeat ((fail_if_success (with_reducible refine' g_asg ?_)); wtm_at "g1"))
/-! ### the same -/
mutual
/-- no dict within, no long list -/
def okD : PyData → Bool
  | .none | .bool _ | .int _ | .str _ => true
  | .list xs => okDs xs && decide (xs.length ≤ 40000)
  | .tuple xs => okDs xs && decide (xs.length ≤ 40000)
  | .dict _ => false
def okDs : List PyData → Bool
  | [] => true
  | x :: xs => okD x && okDs xs
end
theorem okDs_get : ∀ {xs : List PyData} {i : Nat} {d : PyData}, okDs xs = true → xs[i]? = some d → okD d = true
  | [], _, _, _, e => by simp at e
  | x :: xs, 0, d, h, e => by
    simp [okDs] at h; simp at e; subst e; exact h.1
  | x :: xs, i + 1, d, h, e => by
    simp [okDs] at h
    exact okDs_get h.2 (by simpa using e)
theorem depth_get : ∀ {xs : List PyData} {i : Nat} {d : PyData}, xs[i]? = some d → d.depth ≤ PyData.depthAll xs
  | [], _, _, e => by simp at e
  | x :: xs, 0, d, e => by
    simp at e; subst e
    rw [PyData.depthAll]
    exact Nat.le_max_left _ _
  | x :: xs, i + 1, d, e => by
    rw [PyData.depthAll]
    exact Nat.le_trans (depth_get (by simpa using e)) (Nat.le_max_right _ _)
theorem fm_none {n : Nat} : (List.range n).filterMap (fun _ => (none : Option V)) = [] := by
  induction n with
  | zero => rfl
  | succ n ih => rw [List.range_succ, List.filterMap_append, ih]; rfl
section
variable {P : Program} {w : World} {K : PySem.W.Frag} {mg : Str → Option Value} {base : Heap}
local macro_rules | `(tactic| wtm_at "g1") => `(tactic| first
  | ((with_reducible refine' g_fOwn (by assumption) ?h201 ?k201); (case' h201 => wtm_at "hp"))
  | ((with_reducible refine' g_fKey (by assumption) ?h202 ?k202); (case' h202 => wtm_at "hp"))
  | ((with_reducible refine' g_fMem (by assumption) ?h203 ?k203); (case' h203 => wtm_at "hp"))
  | ((with_reducible refine' g_fPri (by assumption) ?h204 ?k204); (case' h204 => wtm_at "hp"))
  | ((with_reducible refine' g_fAwa (by assumption) ?h205 ?k205); (case' h205 => wtm_at "hp"))
  | ((with_reducible refine' g_pAwa (by assumption) ?h206 ?k206); (case' h206 => wtm_at "hp"); (case' k206 => intro _ _ _))
  | ((with_reducible refine' g_kMeth ?h207 ?l207 ?k207); (case' h207 => wtm_at "hp"); (case' l207 => exact rfl)))

local macro_rules | `(tactic| wtm_at "g1") => `(tactic| first
  | ((with_reducible refine' g_dNum ?h311 ?k311); (case' h311 => wtm_at "hp"))
  | ((with_reducible refine' g_dKey ?h312 ?k312); (case' h312 => wtm_at "hp"))
  | ((with_reducible refine' g_dCe ?h313 ?k313); (case' h313 => wtm_at "hp"))
  | ((with_reducible refine' g_dSt ?h314 ?k314); (case' h314 => wtm_at "hp"))
  | ((with_reducible refine' g_dUp ?h315 ?k315); (case' h315 => wtm_at "hp"))
  | ((with_reducible refine' g_kDGetS ?h301 ?l301 ?k301); (case' h301 => wtm_at "hp"); (case' l301 => exact rfl))
  | (with_reducible refine' g_dput ?_)
  | (with_reducible refine' g_iK ?_)
  | ((with_reducible refine' g_disp ?k305); (case' k305 => intro _ _ _ _ _))
  | (with_reducible refine' g_pcons ?_)
  | (with_reducible refine' g_pnil ?_)
  | ((with_reducible refine' g_kDisp ?h306 ?e306 ?f306 ?l306 ?k306); (case' h306 => wtm_at "hp"); (case' e306 => exact rfl); (case' f306 => exact rfl); (case' l306 => wtm_at "ln"); (case' k306 => intro _ _ _))
  | ((with_reducible refine' g_pUp ?h302 ?k302); (case' h302 => wtm_at "hp"); (case' k302 => intro _ _ _))
  | ((with_reducible refine' g_pSt ?h303 ?k303); (case' h303 => wtm_at "hp"); (case' k303 => intro _ _ _))
  | ((with_reducible refine' g_pCe ?h304 ?k304); (case' h304 => wtm_at "hp"); (case' k304 => intro _ _ _)))

local macro_rules | `(tactic| wtm_at "dp") => `(tactic| first
  | assumption
  | ((with_reducible refine' Dp.mx ?m411 ?h411); (case' h411 => assumption); (case' m411 => wtm_at "mo")))
local macro_rules | `(tactic| wtm_at "kk") => `(tactic| first | exact kk_NoneType_tuple | exact kk_NoneType_list | exact kk_NoneType_str | exact kk_NoneType_bool | exact kk_NoneType_int | exact kk_bool_tuple | exact kk_bool_list | exact kk_bool_str | exact kk_bool_bool | exact kk_bool_int | exact kk_int_tuple | exact kk_int_list | exact kk_int_str | exact kk_int_bool | exact kk_int_int | exact kk_str_tuple | exact kk_str_list | exact kk_str_str | exact kk_str_bool | exact kk_str_int | exact kk_list_tuple | exact kk_list_list | exact kk_list_str | exact kk_list_bool | exact kk_list_int | exact kk_tuple_tuple | exact kk_tuple_list | exact kk_tuple_str | exact kk_tuple_bool | exact kk_tuple_int)
local macro_rules | `(tactic| wtm_at "ty") => `(tactic| first
  | assumption
  | ((with_reducible refine' TyX.mx ?m401 ?h401); (case' h401 => assumption); (case' m401 => wtm_at "mo")))
local macro_rules | `(tactic| wtm_at "g1") => `(tactic| first
  | ((with_reducible refine' g_isi ?t402 ?e402 ?k402); (case' t402 => wtm_at "ty"); (case' e402 => wtm_at "kk"))
  | ((with_reducible refine' g_isiT2 ?h403 ?t403 ?e403 ?f403 ?k403); (case' h403 => wtm_at "hp"); (case' t403 => wtm_at "ty"); (case' e403 => wtm_at "kk"); (case' f403 => wtm_at "kk"))
  | ((with_reducible refine' g_ixQL ?h404 ?a404 ?k404); (case' h404 => wtm_at "sl"); (case' a404 => wtm_at "at"))
  | ((with_reducible refine' g_ixQT ?h405 ?a405 ?k405); (case' h405 => wtm_at "st"); (case' a405 => wtm_at "at")))

def spSame (n : Nat) : Sp := fun vs H Q _ => ∃ (v1 v2 : V) (d : PyData), vs = [v1, v2] ∧ d.depth < n ∧ okD d = true ∧ Dp K H v1 d ∧ Dp K H v2 d ∧ ∀ H', Mx [] H H' → Q (.bl true) H'
theorem c__law_same (T : Tx K mg) : ∀ n : Nat, Cl P w K mg base n "_law_same" (spSame (K := K) n) []
  | 0 => ⟨T.f__law_same.a, T.f__law_same.d, _, [], ⟨fun vs H Q E h => by obtain ⟨_, _, _, _, h, _⟩ := h; omega, fun A outer s H args us vs Q E _ _ _ _ h => by obtain ⟨_, _, _, _, h, _⟩ := h; omega⟩, T.f__law_same.g, T.f__law_same.F.kp, T.f__law_same.b, .nil⟩
  | n + 1 => by
    have ih := c__law_same T n
    refine T.f__law_same.cl sc__law_same (fun vs H Q E h => ?_) (fun cdv A outer s H vs Q E hr h => ?_)
    · obtain ⟨_, _, _, rfl, _⟩ := h
      rfl
    · obtain ⟨v1, v2, d, rfl, hn, hok, d1, d2, q⟩ := h
      have t1 := Dp_ty d1
      have t2 := Dp_ty d2
      refine ⟨_, (pss_cons (ps_if (pt_val (pe_callB (cIsiT K) (by rfl) T.n_isinstance (by decide +kernel) (pa_cons (pv 1) (pa_cons (pe_tup (pa_cons (pe_bltn (v := .ty "tuple") (by rfl) T.n_tuple (by decide +kernel) rfl) (pa_cons (pe_bltn (v := .ty "list") (by rfl) T.n_list (by decide +kernel) rfl) pa_nil))) pa_nil)))) (pss_cons (ps_if (PW.pt (pw_or (pt_not (pt_val (pe_callB (cIsiT K) (by rfl) T.n_isinstance (by decide +kernel) (pa_cons (pv 0) (pa_cons (pe_tup (pa_cons (pe_bltn (v := .ty "tuple") (by rfl) T.n_tuple (by decide +kernel) rfl) (pa_cons (pe_bltn (v := .ty "list") (by rfl) T.n_list (by decide +kernel) rfl) pa_nil))) pa_nil))))) (pw_or1 (pt_cmpR op_ne (pe_callB (cIsi K) (by rfl) T.n_isinstance (by decide +kernel) (pa_cons (pv 0) (pa_cons (pe_bltn (v := .ty "list") (by rfl) T.n_list (by decide +kernel) rfl) pa_nil))) (pe_callB (cIsi K) (by rfl) T.n_isinstance (by decide +kernel) (pa_cons (pv 1) (pa_cons (pe_bltn (v := .ty "list") (by rfl) T.n_list (by decide +kernel) rfl) pa_nil))) (by first | exact nomark _ | rfl))))) (pss_one (ps_ret pe_bl)) pss_nil)
      (pss_cons (ps_if (pt_cmpR op_ne (pe_callB (cLen K) (by rfl) T.n_len (by decide +kernel) (pa_cons (pv 0) pa_nil)) (pe_callB (cLen K) (by rfl) T.n_len (by decide +kernel) (pa_cons (pv 1) pa_nil)) (by first | exact nomark _ | rfl)) (pss_one (ps_ret pe_bl)) pss_nil)
      (pss_one (ps_ret (pe_cmpR (opEqD K hr.units) (pe_lc (own := [("_law_k", 2)]) (g := gName 2) rfl sc__law_same.nd (pi_range1 rfl T.n_range (pa_cons (pe_callB (cLen K) (by rfl) T.n_len (by decide +kernel) (pa_cons (pv 1) pa_nil)) pa_nil)) (blkOk_by (own := [("_law_k", 2)]) (N := N__law_same) (sc := defScope s__law_same) (by decide +kernel)) (fun _ _ _ _ _ => pg_name (i := 2) sc__law_same.nd rfl (by first | exact Or.inl rfl | exact Or.inr rfl)) (fun _ _ _ _ _ => (pts_one (pt_not (pt_val (q_call ih hr (Nat.le_refl _) rfl passL (pa_cons (pe_ix (ixQ K) (pv 0) (pv 2) (fun _ _ => rfl)) (pa_cons (pe_ix (ixQ K) (pv 1) (pv 2) (fun _ _ => rfl)) pa_nil))))))) (fun _ _ _ _ _ => (pv 2))) (pe_lst pa_nil) (by first | exact nomark _ | rfl)))))) pss_nil)
      (pss_cons (ps_if (pt_cmp (pc_isN (pv 1)) rfl) (pss_one (ps_ret (pe_cmp (pc_isN (pv 0)) rfl))) pss_nil)
      (pss_cons (ps_if (pt_val (pe_callB (cIsi K) (by rfl) T.n_isinstance (by decide +kernel) (pa_cons (pv 1) (pa_cons (pe_bltn (v := .ty "str") (by rfl) T.n_str (by decide +kernel) rfl) pa_nil)))) (pss_one (ps_ret (pe_and (pe_callB (cIsi K) (by rfl) T.n_isinstance (by decide +kernel) (pa_cons (pv 0) (pa_cons (pe_bltn (v := .ty "str") (by rfl) T.n_str (by decide +kernel) rfl) pa_nil))) (pe_one (pe_cmpR op_eq (pv 0) (pv 1) (by first | exact nomark _ | rfl)))))) pss_nil)
      (pss_cons (ps_if (PW.pt (pw_or (pt_val (pe_callB (cIsi K) (by rfl) T.n_isinstance (by decide +kernel) (pa_cons (pv 1) (pa_cons (pe_bltn (v := .ty "bool") (by rfl) T.n_bool (by decide +kernel) rfl) pa_nil)))) (pw_or1 (pt_val (pe_callB (cIsi K) (by rfl) T.n_isinstance (by decide +kernel) (pa_cons (pv 0) (pa_cons (pe_bltn (v := .ty "bool") (by rfl) T.n_bool (by decide +kernel) rfl) pa_nil))))))) (pss_one (ps_ret (pe_and (pe_callB (cIsi K) (by rfl) T.n_isinstance (by decide +kernel) (pa_cons (pv 1) (pa_cons (pe_bltn (v := .ty "bool") (by rfl) T.n_bool (by decide +kernel) rfl) pa_nil))) (pe_and (pe_callB (cIsi K) (by rfl) T.n_isinstance (by decide +kernel) (pa_cons (pv 0) (pa_cons (pe_bltn (v := .ty "bool") (by rfl) T.n_bool (by decide +kernel) rfl) pa_nil))) (pe_one (pe_cmpR op_eq (pv 0) (pv 1) (by first | exact nomark _ | rfl))))))) pss_nil)
      (pss_one (ps_ret (pe_and (pe_callB (cIsi K) (by rfl) T.n_isinstance (by decide +kernel) (pa_cons (pv 0) (pa_cons (pe_bltn (v := .ty "int") (by rfl) T.n_int (by decide +kernel) rfl) pa_nil))) (pe_one (pe_cmpR op_eq (pv 0) (pv 1) (by first | exact nomark _ | rfl)))))))))), ?_⟩
      cases d with
      | dict kvs => cases hok
      | none =>
        cases d1
        cases d2
        wtm_at "go"
        refine g_no rfl ?_
        wtm_at "go"
        refine g_yes (by simp) ?_
        wtm_at "go"
        exact q _ (by wtm_at "mo")
      | bool b =>
        cases d1
        cases d2
        wtm_at "go"
        refine g_no rfl ?_
        wtm_at "go"
        refine g_no (by simp) ?_
        wtm_at "go"
        rw [show decide (V.bl b = V.bl b) = true by simp]
        exact q _ (by wtm_at "mo")
      | int i =>
        cases d1
        cases d2
        wtm_at "go"
        refine g_no rfl ?_
        wtm_at "go"
        refine g_no (by simp) ?_
        wtm_at "go"
        rw [show decide (V.int i = V.int i) = true by simp]
        exact q _ (by wtm_at "mo")
      | str z =>
        cases d1
        cases d2
        wtm_at "go"
        refine g_no rfl ?_
        wtm_at "go"
        refine g_no (by simp) ?_
        wtm_at "go"
        rw [show decide (V.str z = V.str z) = true by simp]
        exact q _ (by wtm_at "mo")
      | list xs =>
        cases d1 with
        | lst h1 a1 => cases d2 with
          | lst h2 a2 =>
            rename_i p1 vs1 p2 vs2
            have l1 := a1.len
            have l2 := a2.len
            have hok2 : okDs xs = true ∧ xs.length ≤ 40000 := by simpa [okD] using hok
            have lv : vs2.length ≤ 40000 := by omega
            have hdep : PyData.depthAll xs < n := by
              rw [PyData.depth] at hn
              omega
            wtm_at "go"
            refine g_yes rfl ?_
            wtm_at "go"
            refine g_no rfl ?_
            wtm_at "go"
            refine g_no (by simp) ?_
            wtm_at "go"
            refine g_no (by simp; omega) ?_
            wtm_at "go"
            refine g_lcR (fun _ => none) (by intro x; rfl) (by simp; omega) (fun i H' QN hi m hQ => ?_) (fun Dl H' hD m eD => ?_)
            · have hi2 : i < vs2.length := by simpa using hi
              obtain ⟨u1, hu1⟩ : ∃ u, vs1[i]? = some u := ⟨_, List.getElem?_eq_getElem (by omega)⟩
              obtain ⟨u2, hu2⟩ : ∃ u, vs2[i]? = some u := ⟨_, List.getElem?_eq_getElem (by omega)⟩
              obtain ⟨e1, he1, hd1⟩ := a1.get' hu1
              obtain ⟨e2, he2, hd2⟩ := a2.get' hu2
              rw [he1] at he2
              cases he2
              have ei : (0 : Int) + (i : Int) = (i : Int) := by omega
              have g1 : atI vs1 ((0 : Int) + (i : Int)) = some u1 := by rw [ei]; exact atI_nat hu1
              have g2 : atI vs2 ((0 : Int) + (i : Int)) = some u2 := by rw [ei]; exact atI_nat hu2
              wtm_at "go"
              refine ⟨u1, u2, e1, rfl, Nat.lt_of_le_of_lt (depth_get he1) hdep, okDs_get hok2.1 he1, by wtm_at "dp", by wtm_at "dp", fun H3 m3 => ?_⟩
              wtm_at "go"
              refine g_no rfl ?_
              exact hQ none H3 (by wtm_at "mo") rfl
            · rw [fm_none] at eD
              wtm_at "go"
              refine g_eqI (xs := []) (ys := []) (by wtm_at "sl") (by wtm_at "sl") ?_
              exact q _ (by wtm_at "mo")
      | tuple xs =>
        cases d1 with
        | tup h1 a1 => cases d2 with
          | tup h2 a2 =>
            rename_i p1 vs1 p2 vs2
            have l1 := a1.len
            have l2 := a2.len
            have hok2 : okDs xs = true ∧ xs.length ≤ 40000 := by simpa [okD] using hok
            have lv : vs2.length ≤ 40000 := by omega
            have hdep : PyData.depthAll xs < n := by
              rw [PyData.depth] at hn
              omega
            wtm_at "go"
            refine g_yes rfl ?_
            wtm_at "go"
            refine g_no rfl ?_
            wtm_at "go"
            refine g_no (by simp) ?_
            wtm_at "go"
            refine g_no (by simp; omega) ?_
            wtm_at "go"
            refine g_lcR (fun _ => none) (by intro x; rfl) (by simp; omega) (fun i H' QN hi m hQ => ?_) (fun Dl H' hD m eD => ?_)
            · have hi2 : i < vs2.length := by simpa using hi
              obtain ⟨u1, hu1⟩ : ∃ u, vs1[i]? = some u := ⟨_, List.getElem?_eq_getElem (by omega)⟩
              obtain ⟨u2, hu2⟩ : ∃ u, vs2[i]? = some u := ⟨_, List.getElem?_eq_getElem (by omega)⟩
              obtain ⟨e1, he1, hd1⟩ := a1.get' hu1
              obtain ⟨e2, he2, hd2⟩ := a2.get' hu2
              rw [he1] at he2
              cases he2
              have ei : (0 : Int) + (i : Int) = (i : Int) := by omega
              have g1 : atI vs1 ((0 : Int) + (i : Int)) = some u1 := by rw [ei]; exact atI_nat hu1
              have g2 : atI vs2 ((0 : Int) + (i : Int)) = some u2 := by rw [ei]; exact atI_nat hu2
              wtm_at "go"
              refine ⟨u1, u2, e1, rfl, Nat.lt_of_le_of_lt (depth_get he1) hdep, okDs_get hok2.1 he1, by wtm_at "dp", by wtm_at "dp", fun H3 m3 => ?_⟩
              wtm_at "go"
              refine g_no rfl ?_
              exact hQ none H3 (by wtm_at "mo") rfl
            · rw [fm_none] at eD
              wtm_at "go"
              refine g_eqI (xs := []) (ys := []) (by wtm_at "sl") (by wtm_at "sl") ?_
              exact q _ (by wtm_at "mo")
end
end Fk
namespace Fk
open PySem PySem.Spec PyProof.Rows L2
local macro_rules | `(tactic| wtm_at "ln") => `(tactic| first
  | omega
  | (simp only [List.length_cons, List.length_nil, List.length_map, List.length_append, List.length_replicate, List.length_take, List.length_drop, List.length_set]; omega)
  | (with_unfolding_all exact (by decide)))
local macro_rules | `(tactic| wtm_at "ar") => `(tactic| first
  | ((with_reducible show CMulW _ _); (refine' mulS ?_ ?_ <;> omega))
  | ((with_reducible show CDivW _ _); (refine' divS ?_ ?_ <;> omega))
  | ((with_reducible show CPow _ _); exact ⟨by decide, by decide, by decide⟩)
  | (show (0 : Int) < _; omega)
  | (with_unfolding_all exact (by decide)))
local macro_rules | `(tactic| wtm_at "at") => `(tactic| first
  | assumption
  | (refine' cl_atE ?e80 ?h80; (case' e80 => first | exact rfl | assumption); (case' h80 => wtm_at "ln"))
  | exact rfl)
local macro_rules | `(tactic| wtm_at "fr") => `(tactic| first
  | assumption
  | ((with_reducible refine' Mx.free0 ?m99 ?h99); (case' h99 => assumption); (case' m99 => wtm_at "mo")))
local macro_rules | `(tactic| wtm_at "hp") => `(tactic| first
  | assumption
  | ((with_reducible refine' Mx.get0 ?m1 ?h1); (case' m1 => assumption); (case' h1 => wtm_at "hp"))
  | ((with_reducible refine' Mx.get ?m2 ?n2 ?h2); (case' m2 => assumption); (case' n2 => wtm_at "nin"); (case' h2 => wtm_at "hp")))
local macro_rules | `(tactic| wtm_at "sl") => `(tactic| first
  | assumption
  | ((with_reducible refine' Mx.sqL0 ?m96 ?h96); (case' h96 => assumption); (case' m96 => wtm_at "mo"))
  | (refine' SqL.of ?h3; (case' h3 => wtm_at "hp"))
  | ((with_reducible refine' Mx.sqL0 ?m4 ?h4); (case' m4 => assumption); (case' h4 => wtm_at "sl"))
  | ((with_reducible refine' Mx.sqL ?m5 ?n5 ?h5); (case' m5 => assumption); (case' n5 => wtm_at "nin"); (case' h5 => wtm_at "sl")))
local macro_rules | `(tactic| wtm_at "st") => `(tactic| first
  | assumption
  | ((with_reducible refine' Mx.sqT0 ?m97 ?h97); (case' h97 => assumption); (case' m97 => wtm_at "mo"))
  | (refine' SqT.of ?h6; (case' h6 => wtm_at "hp"))
  | ((with_reducible refine' Mx.sqT0 ?m7 ?h7); (case' m7 => assumption); (case' h7 => wtm_at "st"))
  | ((with_reducible refine' Mx.sqT ?m8 ?n8 ?h8); (case' m8 => assumption); (case' n8 => wtm_at "nin"); (case' h8 => wtm_at "st")))
local macro_rules | `(tactic| wtm_at "mx") => `(tactic| first
  | assumption
  | exact Mx.refl
  | ((with_reducible refine' Mx.of0 ?h9); (case' h9 => assumption))
  | ((with_reducible refine' Mx.trans ?h10 ?m10); (case' m10 => first | assumption | ((with_reducible refine' Mx.of0 ?q10); (case' q10 => assumption))); (case' h10 => wtm_at "mx")))
local macro_rules | `(tactic| wtm_at "mo") => `(tactic| first
  | wtm_at "mx"
  | ((with_reducible refine' Mx.own ?m90 ?f90 ?k90); (case' k90 => assumption); (case' f90 => wtm_at "fr"); (case' m90 => wtm_at "mo"))
  | ((with_reducible refine' Mx.trans ?h91 ?m91); (case' m91 => first | assumption | ((with_reducible refine' Mx.of0 ?q91); (case' q91 => assumption))); (case' h91 => wtm_at "mo")))
local macro_rules | `(tactic| wtm_at "ne") => `(tactic| first
  | assumption
  | exact Ne.symm (by assumption)
  | ((with_reducible refine' ne_of_none ?x94 ?y94); (case' y94 => assumption); (case' x94 => wtm_at "hp"))
  | ((with_reducible refine' Ne.symm (ne_of_none ?x95 ?y95)); (case' y95 => assumption); (case' x95 => wtm_at "hp")))
local macro_rules | `(tactic| wtm_at "nin") => `(tactic| first
  | assumption
  | exact List.not_mem_nil
  | ((with_reducible refine' List.not_mem_cons_of_ne_of_not_mem ?h98 ?t98); (case' h98 => wtm_at "ne"); (case' t98 => wtm_at "nin")))
local macro_rules | `(tactic| wtm_at "g1") => `(tactic| first
  | ((with_reducible refine' g_var ?h11 ?k11); (case' h11 => exact rfl))
  | with_reducible refine' g_c ?_
  | with_reducible refine' g_op ?_
  | with_reducible refine' g_I0 ?_
  | ((with_reducible refine' g_I ?c12 ?k12); (case' c12 => wtm_at "ar"))
  | with_reducible refine' g_cons ?_
  | with_reducible refine' g_nil ?_
  | with_reducible refine' g_seq ?_
  | with_reducible refine' g_asg ?_
  | with_reducible refine' g_name ?_
  | with_reducible refine' g_ret ?_
  | with_reducible refine' g_if ?_
  | with_reducible refine' g_test ?_
  | with_reducible refine' g_tB ?_
  | with_reducible refine' g_bl ?_
  | ((with_reducible refine' g_eq ?h13 ?k13); (case' h13 => exact rfl))
  | ((with_reducible refine' g_ne ?h14 ?k14); (case' h14 => exact rfl))
  | with_reducible refine' g_CB ?_
  | with_reducible refine' g_call ?_
  | with_reducible refine' g_drop ?_
  | with_reducible refine' g_next ?_
  | with_reducible refine' g_not ?_
  | with_reducible refine' g_and ?_
  | with_reducible refine' g_or ?_
  | with_reducible refine' g_un ?_
  | with_reducible refine' g_U ?_
  | with_reducible refine' g_tup ?_
  | with_reducible refine' g_lst ?_
  | ((with_reducible refine' g_kNew ?h15 ?k15); (case' h15 => wtm_at "ln"); (case' k15 => intro _ _ _ _ _))
  | ((with_reducible refine' g_ixL ?h16 ?a16 ?k16); (case' h16 => wtm_at "sl"); (case' a16 => wtm_at "at"))
  | ((with_reducible refine' g_ixT ?h17 ?a17 ?k17); (case' h17 => wtm_at "st"); (case' a17 => wtm_at "at"))
  | with_reducible refine' g_slice ?_
  | with_reducible refine' g_part ?_
  | with_reducible refine' g_kPart ?_
  | with_reducible refine' g_noPart ?_
  | ((with_reducible refine' g_slL ?h18 ?k18); (case' h18 => wtm_at "sl"); (case' k18 => intro _ _ _ _ _))
  | ((with_reducible refine' g_cat ?h119 ?h219 ?l19 ?k19); (case' h119 => wtm_at "hp"); (case' h219 => wtm_at "hp"); (case' l19 => wtm_at "ln"); (case' k19 => intro _ _ _ _ _))
  | ((with_reducible refine' g_rep ?h120 ?h220 ?h320 ?l20 ?k20); (case' h120 => wtm_at "hp"); (case' h220 => wtm_at "ln"); (case' h320 => wtm_at "ln"); (case' l20 => wtm_at "ln"); (case' k20 => intro _ _ _ _ _))
  | ((with_reducible refine' g_append ?h21 ?l21 ?k21); (case' h21 => wtm_at "hp"); (case' l21 => wtm_at "ln"); (case' k21 => intro _ _ _))
  | ((with_reducible refine' g_kBM ?h22 ?k22); (case' h22 => wtm_at "sl"))
  | ((with_reducible refine' g_kBM0 ?h23 ?k23); (case' h23 => wtm_at "sl"))
  | ((with_reducible refine' g_kL ?h24 ?k24); (case' h24 => wtm_at "sl"))
  | ((with_reducible refine' g_kR1 ?h125 ?h225 ?k25); (case' h125 => wtm_at "ln"); (case' h225 => wtm_at "ln"))
  | ((with_reducible refine' g_kR2 ?h126 ?h226 ?h326 ?h426 ?k26); (case' h126 => wtm_at "ln"); (case' h226 => wtm_at "ln"); (case' h326 => wtm_at "ln"); (case' h426 => wtm_at "ln"))
  | ((with_reducible refine' g_lenL ?h27 ?k27); (case' h27 => wtm_at "sl"))
  | ((with_reducible refine' g_lenT ?h28 ?k28); (case' h28 => wtm_at "st"))
  | ((with_reducible refine' g_listL ?h29 ?k29); (case' h29 => wtm_at "sl"); (case' k29 => intro _ _ _ _ _))
  | ((with_reducible refine' g_tupleL ?h30 ?k30); (case' h30 => wtm_at "sl"); (case' k30 => intro _ _ _ _ _))
  | with_reducible refine' g_max ?_
  | with_reducible refine' g_min ?_
  | with_reducible refine' g_intB ?_
  | with_reducible refine' g_fld ?_
  | with_reducible refine' g_put ?_
  | with_reducible refine' g_dget ?_
  | with_reducible refine' g_isN ?_
  | with_reducible refine' g_notN ?_
  | with_reducible refine' g_ifE ?_
  | with_reducible refine' g_andV ?_
  | with_reducible refine' g_orV ?_
  | with_reducible refine' g_notV ?_
  | with_reducible refine' g_kIf ?_
  | with_reducible refine' g_chain ?_
  | with_reducible refine' g_kCh ?_
  | with_reducible refine' g_sub ?_
  | ((with_reducible refine' g_setI ?h92 ?e92 ?j92 ?k92); (case' h92 => wtm_at "hp"); (case' e92 => first | exact rfl | assumption); (case' j92 => wtm_at "ln"); (case' k92 => intro _ _ _))
  | ((with_reducible refine' g_setL ?h89 ?i89 ?k89); (case' h89 => wtm_at "hp"); (case' i89 => exact ixE rfl (by wtm_at "ln")); (case' k89 => intro _ _ _))
  | ((with_reducible refine' g_gtup ?h93 ?e93 ?k93); (case' h93 => wtm_at "st"); (case' e93 => exact rfl))
  | with_reducible refine' g_gcons ?_
  | with_reducible refine' g_gnil ?_
  | with_reducible refine' g_par ?_
  | with_reducible refine' g_kPar ?_
  | with_reducible refine' g_meth ?_
  | with_reducible refine' g_bm ?_
  | with_reducible refine' g_bm0 ?_
  | with_reducible refine' g_raise ?_
  | with_reducible refine' g_for ?_
  | with_reducible refine' g_iR1 ?_
  | with_reducible refine' g_iR2 ?_
  | with_reducible refine' g_iL ?_
  | with_reducible refine' g_lc ?_
  | with_reducible refine' g_retN ?_
  | with_reducible refine' g_no (b := false) rfl ?_
  | with_reducible refine' g_yes (b := true) rfl ?_)
local macro_rules | `(tactic| wtm_at "go") => `(tactic| repeat (wtm_at "g1"))
local macro_rules | `(tactic| wtm_at "gs") => `(tactic| repeat ((fail_if_success (with_reducible refine' g_ifE ?_)); wtm_at "g1"))
local macro_rules | `(tactic| wtm_at "gi") => `(tactic| repeat ((fail_if_success (with_reducible refine' g_if ?_)); wtm_at "g1"))
local macro_rules | `(tactic| wtm_at "gr") => `(tactic| repeat ((fail_if_success (with_reducible refine' g_ret ?_)); wtm_at "g1"))
local macro_rules | `(tactic| wtm_at "gq") => `(tactic| repeat ((fail_if_success (with_reducible refine' g_asg ?_)); wtm_at "g1"))
/-! ### what something tells, or the word of its refusal -/
theorem Takes.len {X : Cx} {W : WX} (tk : Takes X W) : Takes X (fun cls d σ H => σ.length = X.N.length → W cls d σ H) := fun u s' ⟨a, B, sI, pins, σ, H, cls, d, e, I, nb, up, sky, na, os, ag, w⟩ =>
  tk u s' ⟨a, B, sI, pins, σ, H, cls, d, e, I, nb, up, sky, na, os, ag, w I.len⟩
section
variable {P : Program} {w : World} {K : PySem.W.Frag} {mg : Str → Option Value} {base : Heap}
def TKind (T : Tx K mg) : (XK → Hp → VK → Prop) → Hp → VK → Prop := fun tl H Q =>
  tl (fun cls d H' => ∃ r : Rf, cls = .ref (r.at T) ∧ d = none ∧ ∀ H'', Mx [] H' H'' → Q (.str r.word) H'') H (fun v H' => Q v H')
theorem Rf.kit (T : Tx K mg) : ∀ r r' : Rf, PySem.W.kitOne K (.ref (r.at T)) (.ref (r'.at T)) = some (decide (r = r'))
  | .down, .down => T.kt_Down_Down
  | .down, .up => T.kt_Down_Up
  | .down, .amount => T.kt_Down_BadAmount
  | .down, .code => T.kt_Down_BadCode
  | .down, .short => T.kt_Down_Short
  | .down, .bank => T.kt_Down_NoBank
  | .down, .number => T.kt_Down_BadNumber
  | .down, .meter => T.kt_Down_NoMeter
  | .up, .down => T.kt_Up_Down
  | .up, .up => T.kt_Up_Up
  | .up, .amount => T.kt_Up_BadAmount
  | .up, .code => T.kt_Up_BadCode
  | .up, .short => T.kt_Up_Short
  | .up, .bank => T.kt_Up_NoBank
  | .up, .number => T.kt_Up_BadNumber
  | .up, .meter => T.kt_Up_NoMeter
  | .amount, .down => T.kt_BadAmount_Down
  | .amount, .up => T.kt_BadAmount_Up
  | .amount, .amount => T.kt_BadAmount_BadAmount
  | .amount, .code => T.kt_BadAmount_BadCode
  | .amount, .short => T.kt_BadAmount_Short
  | .amount, .bank => T.kt_BadAmount_NoBank
  | .amount, .number => T.kt_BadAmount_BadNumber
  | .amount, .meter => T.kt_BadAmount_NoMeter
  | .code, .down => T.kt_BadCode_Down
  | .code, .up => T.kt_BadCode_Up
  | .code, .amount => T.kt_BadCode_BadAmount
  | .code, .code => T.kt_BadCode_BadCode
  | .code, .short => T.kt_BadCode_Short
  | .code, .bank => T.kt_BadCode_NoBank
  | .code, .number => T.kt_BadCode_BadNumber
  | .code, .meter => T.kt_BadCode_NoMeter
  | .short, .down => T.kt_Short_Down
  | .short, .up => T.kt_Short_Up
  | .short, .amount => T.kt_Short_BadAmount
  | .short, .code => T.kt_Short_BadCode
  | .short, .short => T.kt_Short_Short
  | .short, .bank => T.kt_Short_NoBank
  | .short, .number => T.kt_Short_BadNumber
  | .short, .meter => T.kt_Short_NoMeter
  | .bank, .down => T.kt_NoBank_Down
  | .bank, .up => T.kt_NoBank_Up
  | .bank, .amount => T.kt_NoBank_BadAmount
  | .bank, .code => T.kt_NoBank_BadCode
  | .bank, .short => T.kt_NoBank_Short
  | .bank, .bank => T.kt_NoBank_NoBank
  | .bank, .number => T.kt_NoBank_BadNumber
  | .bank, .meter => T.kt_NoBank_NoMeter
  | .number, .down => T.kt_BadNumber_Down
  | .number, .up => T.kt_BadNumber_Up
  | .number, .amount => T.kt_BadNumber_BadAmount
  | .number, .code => T.kt_BadNumber_BadCode
  | .number, .short => T.kt_BadNumber_Short
  | .number, .bank => T.kt_BadNumber_NoBank
  | .number, .number => T.kt_BadNumber_BadNumber
  | .number, .meter => T.kt_BadNumber_NoMeter
  | .meter, .down => T.kt_NoMeter_Down
  | .meter, .up => T.kt_NoMeter_Up
  | .meter, .amount => T.kt_NoMeter_BadAmount
  | .meter, .code => T.kt_NoMeter_BadCode
  | .meter, .short => T.kt_NoMeter_Short
  | .meter, .bank => T.kt_NoMeter_NoBank
  | .meter, .number => T.kt_NoMeter_BadNumber
  | .meter, .meter => T.kt_NoMeter_NoMeter
theorem Rf.exi (T : Tx K mg) (r : Rf) : ExI K (r.at T) T.E_FrankError := by
  cases r
  · exact T.i_Down
  · exact T.i_Up
  · exact T.i_BadAmount
  · exact T.i_BadCode
  · exact T.i_Short
  · exact T.i_NoBank
  · exact T.i_BadNumber
  · exact T.i_NoMeter
theorem g_isR (T : Tx K mg) {r r' : Rf} {a : Addr} {H : Hp} {Q : VK} (k : Q (.bl (decide (r = r'))) H) : rIsX K (.ref (r.at T)) none a [.ref a, .ref (r'.at T)] H Q := g_isX (r.exi T).c (r.kit T r') k
def Rf.bits (r : Rf) : List Bool := [decide (r = .bank), decide (r = .number), decide (r = .amount), decide (r = .code), decide (r = .short), decide (r = .down), decide (r = .up), decide (r = .meter)]
def Rf.pos : Rf → Nat
  | .bank => 0
  | .number => 1
  | .amount => 2
  | .code => 3
  | .short => 4
  | .down => 5
  | .up => 6
  | .meter => 7
theorem kind_gives {X : Cx} (T : Tx X.K X.mg) {cdv : Value} {q : Str} (hr : Room 2 X.A) : LamX.GivesTo X N__law_kind "_law_kind" (defScope s__law_kind) T.f__law_kind.a cdv (defBody s__law_kind) "_law_work" q (TKind T) := by
  intro f c' s H Q tl act hc h
  have hu65 : (X.A.deeper (envOfC "_law_kind" (defScope s__law_kind) s.heap.objs.size T.f__law_kind.a cdv)).units + 65 < cLine := Room.units65 (hr.deeper _)
  have hgl : Gl (cxOf C8.CX0 X.prog X.w X.K X.mg X.base N__law_kind "_law_kind" (defScope s__law_kind) T.f__law_kind.a cdv X.A X.stack s H C8.E0).nox "FrankError" := rfl
  refine ⟨_, pss_one (ps_try_as (X := (cxOf C8.CX0 X.prog X.w X.K X.mg X.base N__law_kind "_law_kind" (defScope s__law_kind) T.f__law_kind.a cdv X.A X.stack s H C8.E0).nox) (c := .ref T.E_FrankError) (i := 1)
      (tb := fun W D σ H => ∃ Ech : XK, (∀ cls d σ' H', Ech cls d H' → σ'.length = 4 → W cls d σ' H') ∧ σ[0]? = some (some (.ref f)) ∧ H c' = some (LamX.CodeO c' q) ∧ tl Ech H D.rt)
      rfl rfl sc__law_kind.nd rfl rfl ⟨hgl, rfl, .inl T.x_FrankError.g⟩ LamX.takes0 (fun W pn xe tk _ => ?_) (fun a oe cls d pn hz hf => (pss_cons (ps_set (i := 2) sc__law_kind.nd rfl (Or.inl rfl) (pe_lst (pa_cons (pe_callB (cIsX X.K hz hf) (by rfl) T.n_isinstance (by decide +kernel) (pa_cons (pv 1) (pa_cons (pe_glob (v := .ref T.E_NoBank) rfl T.x_NoBank.g rfl) pa_nil))) (pa_cons (pe_callB (cIsX X.K hz hf) (by rfl) T.n_isinstance (by decide +kernel) (pa_cons (pv 1) (pa_cons (pe_glob (v := .ref T.E_BadNumber) rfl T.x_BadNumber.g rfl) pa_nil))) (pa_cons (pe_callB (cIsX X.K hz hf) (by rfl) T.n_isinstance (by decide +kernel) (pa_cons (pv 1) (pa_cons (pe_glob (v := .ref T.E_BadAmount) rfl T.x_BadAmount.g rfl) pa_nil))) (pa_cons (pe_callB (cIsX X.K hz hf) (by rfl) T.n_isinstance (by decide +kernel) (pa_cons (pv 1) (pa_cons (pe_glob (v := .ref T.E_BadCode) rfl T.x_BadCode.g rfl) pa_nil))) pa_nil))))))
      (pss_cons (ps_set (i := 2) sc__law_kind.nd rfl (Or.inl rfl) (pe_op op_cat (pv 2) (pe_lst (pa_cons (pe_callB (cIsX X.K hz hf) (by rfl) T.n_isinstance (by decide +kernel) (pa_cons (pv 1) (pa_cons (pe_glob (v := .ref T.E_Short) rfl T.x_Short.g rfl) pa_nil))) (pa_cons (pe_callB (cIsX X.K hz hf) (by rfl) T.n_isinstance (by decide +kernel) (pa_cons (pv 1) (pa_cons (pe_glob (v := .ref T.E_Down) rfl T.x_Down.g rfl) pa_nil))) (pa_cons (pe_callB (cIsX X.K hz hf) (by rfl) T.n_isinstance (by decide +kernel) (pa_cons (pv 1) (pa_cons (pe_glob (v := .ref T.E_Up) rfl T.x_Up.g rfl) pa_nil))) (pa_cons (pe_callB (cIsX X.K hz hf) (by rfl) T.n_isinstance (by decide +kernel) (pa_cons (pv 1) (pa_cons (pe_glob (v := .ref T.E_NoMeter) rfl T.x_NoMeter.g rfl) pa_nil))) pa_nil)))))))
      (pss_cons (ps_set (i := 3) sc__law_kind.nd rfl (Or.inl rfl) (pe_lst (pa_cons pe_str (pa_cons pe_str (pa_cons pe_str (pa_cons pe_str (pa_cons pe_str (pa_cons pe_str (pa_cons pe_str (pa_cons pe_str pa_nil))))))))))
      (pss_cons (ps_if (PW.pt (pw_or (pt_cmpR op_ne (bmK X.K PySem.F.plainAttrs_list PySem.F.slot_list_count PySem.F.type_list_count (mtCountF X.K) (pv 2) (pa_cons pe_bl pa_nil)) pe_int (by first | exact nomark _ | rfl)) (pw_or1 (pt_not (pt_val (pe_callB (cIsX X.K hz hf) (by rfl) T.n_isinstance (by decide +kernel) (pa_cons (pv 1) (pa_cons (pe_bltn (v := .ty "ValueError") (by rfl) T.n_ValueError (by decide +kernel) rfl) pa_nil)))))))) (pss_one (ps_ret pe_str)) pss_nil)
      (pss_one (ps_ret (pe_ix (ixL X.K) (pv 3) (bmK X.K PySem.F.plainAttrs_list PySem.F.slot_list_index PySem.F.type_list_index (mtIndexD X.K hu65) (pv 2) (pa_cons pe_bl pa_nil)) (fun _ _ => rfl)))))))))), ?_⟩
  · refine ⟨fun pins s' σ H' D I h' => ?_⟩
    obtain ⟨Ech, hW, h1, h2, h3⟩ := h'
    exact (pss_one (ps_ret (act _ pn xe Ech _ _ (Takes.len tk) hW))).run pins s' σ H' D I ⟨h1, h2, h3⟩
  · refine ⟨fun cls d H' => ∃ r : Rf, cls = .ref (r.at T) ∧ d = none ∧ ∀ H'', Mx [] H' H'' → Q (.str r.word) H'', fun cls d σ' H' ⟨r, e1, e2, k⟩ hl => ?_, rfl, hc, h⟩
    subst e1 e2
    refine ⟨true, (r.exi T).exm T.x_FrankError T.hd_FrankError, fun _ a na => ?_, fun z => by cases z⟩
    match σ', hl with
    | [x0, x1, x2, x3], _ =>
      wtm_at "go"
      refine g_isR T (r' := .bank) ?_
      wtm_at "go"
      refine g_isR T (r' := .number) ?_
      wtm_at "go"
      refine g_isR T (r' := .amount) ?_
      wtm_at "go"
      refine g_isR T (r' := .code) ?_
      wtm_at "go"
      rename_i l1 H1 n1 m1 e1
      refine g_isR T (r' := .short) ?_
      wtm_at "go"
      refine g_isR T (r' := .down) ?_
      wtm_at "go"
      refine g_isR T (r' := .up) ?_
      wtm_at "go"
      refine g_isR T (r' := .meter) ?_
      wtm_at "go"
      rename_i l2 H2 n2 m2 e2 l3 H3 n3 m3 e3 l4 H4 n4 m4 e4
      have e3' : H4 l3 = some (.lst (r.bits.map V.bl)) := m4.get0 e3
      have mm : Mx [] H' H4 := ((m1.trans m2).trans m3).trans m4
      refine g_cntB (SqL.of e3') (n := 1) (by cases r <;> rfl) ?_
      wtm_at "go"
      refine g_no (by decide) ?_
      wtm_at "go"
      refine g_isXt (r.exi T).c (r.exi T).ve ?_
      wtm_at "go"
      refine g_no (by decide) ?_
      wtm_at "go"
      refine g_ixB (j := r.pos) (SqL.of e3') (by cases r <;> rfl) (fun m hm => ?_) ?_
      · have : r.pos < 8 := by cases r <;> decide
        match m, hm with
        | 0, hm => revert hm; cases r <;> decide
        | 1, hm => revert hm; cases r <;> decide
        | 2, hm => revert hm; cases r <;> decide
        | 3, hm => revert hm; cases r <;> decide
        | 4, hm => revert hm; cases r <;> decide
        | 5, hm => revert hm; cases r <;> decide
        | 6, hm => revert hm; cases r <;> decide
        | m + 7, hm => omega
      · refine g_ixL (v := .str r.word) (SqL.of e4) (by cases r <;> exact rfl) ?_
        exact k _ mm
end
end Fk
namespace Fk
open PySem PySem.Spec PyProof.Rows L2
local macro_rules | `(tactic| wtm_at "ln") => `(tactic| first
  | omega
  | (simp only [List.length_cons, List.length_nil, List.length_map, List.length_append, List.length_replicate, List.length_take, List.length_drop, List.length_set]; omega)
  | (with_unfolding_all exact (by decide)))
local macro_rules | `(tactic| wtm_at "ar") => `(tactic| first
  | ((with_reducible show CMulW _ _); (refine' mulS ?_ ?_ <;> omega))
  | ((with_reducible show CDivW _ _); (refine' divS ?_ ?_ <;> omega))
  | ((with_reducible show CPow _ _); exact ⟨by decide, by decide, by decide⟩)
  | (show (0 : Int) < _; omega)
  | (with_unfolding_all exact (by decide)))
local macro_rules | `(tactic| wtm_at "at") => `(tactic| first
  | assumption
  | (refine' cl_atE ?e80 ?h80; (case' e80 => first | exact rfl | assumption); (case' h80 => wtm_at "ln"))
  | exact rfl)
local macro_rules | `(tactic| wtm_at "fr") => `(tactic| first
  | assumption
  | ((with_reducible refine' Mx.free0 ?m99 ?h99); (case' h99 => assumption); (case' m99 => wtm_at "mo")))
local macro_rules | `(tactic| wtm_at "hp") => `(tactic| first
  | assumption
  | ((with_reducible refine' Mx.get0 ?m1 ?h1); (case' m1 => assumption); (case' h1 => wtm_at "hp"))
  | ((with_reducible refine' Mx.get ?m2 ?n2 ?h2); (case' m2 => assumption); (case' n2 => wtm_at "nin"); (case' h2 => wtm_at "hp")))
local macro_rules | `(tactic| wtm_at "sl") => `(tactic| first
  | assumption
  | ((with_reducible refine' Mx.sqL0 ?m96 ?h96); (case' h96 => assumption); (case' m96 => wtm_at "mo"))
  | (refine' SqL.of ?h3; (case' h3 => wtm_at "hp"))
  | ((with_reducible refine' Mx.sqL0 ?m4 ?h4); (case' m4 => assumption); (case' h4 => wtm_at "sl"))
  | ((with_reducible refine' Mx.sqL ?m5 ?n5 ?h5); (case' m5 => assumption); (case' n5 => wtm_at "nin"); (case' h5 => wtm_at "sl")))
local macro_rules | `(tactic| wtm_at "st") => `(tactic| first
  | assumption
  | ((with_reducible refine' Mx.sqT0 ?m97 ?h97); (case' h97 => assumption); (case' m97 => wtm_at "mo"))
  | (refine' SqT.of ?h6; (case' h6 => wtm_at "hp"))
  | ((with_reducible refine' Mx.sqT0 ?m7 ?h7); (case' m7 => assumption); (case' h7 => wtm_at "st"))
  | ((with_reducible refine' Mx.sqT ?m8 ?n8 ?h8); (case' m8 => assumption); (case' n8 => wtm_at "nin"); (case' h8 => wtm_at "st")))
local macro_rules | `(tactic| wtm_at "mx") => `(tactic| first
  | assumption
  | exact Mx.refl
  | ((with_reducible refine' Mx.of0 ?h9); (case' h9 => assumption))
  | ((with_reducible refine' Mx.trans ?h10 ?m10); (case' m10 => first | assumption | ((with_reducible refine' Mx.of0 ?q10); (case' q10 => assumption))); (case' h10 => wtm_at "mx")))
local macro_rules | `(tactic| wtm_at "mo") => `(tactic| first
  | wtm_at "mx"
  | ((with_reducible refine' Mx.own ?m90 ?f90 ?k90); (case' k90 => assumption); (case' f90 => wtm_at "fr"); (case' m90 => wtm_at "mo"))
  | ((with_reducible refine' Mx.trans ?h91 ?m91); (case' m91 => first | assumption | ((with_reducible refine' Mx.of0 ?q91); (case' q91 => assumption))); (case' h91 => wtm_at "mo")))
local macro_rules | `(tactic| wtm_at "ne") => `(tactic| first
  | assumption
  | exact Ne.symm (by assumption)
  | ((with_reducible refine' ne_of_none ?x94 ?y94); (case' y94 => assumption); (case' x94 => wtm_at "hp"))
  | ((with_reducible refine' Ne.symm (ne_of_none ?x95 ?y95)); (case' y95 => assumption); (case' x95 => wtm_at "hp")))
local macro_rules | `(tactic| wtm_at "nin") => `(tactic| first
  | assumption
  | exact List.not_mem_nil
  | ((with_reducible refine' List.not_mem_cons_of_ne_of_not_mem ?h98 ?t98); (case' h98 => wtm_at "ne"); (case' t98 => wtm_at "nin")))
local macro_rules | `(tactic| wtm_at "g1") => `(tactic| first
  | ((with_reducible refine' g_var ?h11 ?k11); (case' h11 => exact rfl))
  | with_reducible refine' g_c ?_
  | with_reducible refine' g_op ?_
  | with_reducible refine' g_I0 ?_
  | ((with_reducible refine' g_I ?c12 ?k12); (case' c12 => wtm_at "ar"))
  | with_reducible refine' g_cons ?_
  | with_reducible refine' g_nil ?_
  | with_reducible refine' g_seq ?_
  | with_reducible refine' g_asg ?_
  | with_reducible refine' g_name ?_
  | with_reducible refine' g_ret ?_
  | with_reducible refine' g_if ?_
  | with_reducible refine' g_test ?_
  | with_reducible refine' g_tB ?_
  | with_reducible refine' g_bl ?_
  | ((with_reducible refine' g_eq ?h13 ?k13); (case' h13 => exact rfl))
  | ((with_reducible refine' g_ne ?h14 ?k14); (case' h14 => exact rfl))
  | with_reducible refine' g_CB ?_
  | with_reducible refine' g_call ?_
  | with_reducible refine' g_drop ?_
  | with_reducible refine' g_next ?_
  | with_reducible refine' g_not ?_
  | with_reducible refine' g_and ?_
  | with_reducible refine' g_or ?_
  | with_reducible refine' g_un ?_
  | with_reducible refine' g_U ?_
  | with_reducible refine' g_tup ?_
  | with_reducible refine' g_lst ?_
  | ((with_reducible refine' g_kNew ?h15 ?k15); (case' h15 => wtm_at "ln"); (case' k15 => intro _ _ _ _ _))
  | ((with_reducible refine' g_ixL ?h16 ?a16 ?k16); (case' h16 => wtm_at "sl"); (case' a16 => wtm_at "at"))
  | ((with_reducible refine' g_ixT ?h17 ?a17 ?k17); (case' h17 => wtm_at "st"); (case' a17 => wtm_at "at"))
  | with_reducible refine' g_slice ?_
  | with_reducible refine' g_part ?_
  | with_reducible refine' g_kPart ?_
  | with_reducible refine' g_noPart ?_
  | ((with_reducible refine' g_slL ?h18 ?k18); (case' h18 => wtm_at "sl"); (case' k18 => intro _ _ _ _ _))
  | ((with_reducible refine' g_cat ?h119 ?h219 ?l19 ?k19); (case' h119 => wtm_at "hp"); (case' h219 => wtm_at "hp"); (case' l19 => wtm_at "ln"); (case' k19 => intro _ _ _ _ _))
  | ((with_reducible refine' g_rep ?h120 ?h220 ?h320 ?l20 ?k20); (case' h120 => wtm_at "hp"); (case' h220 => wtm_at "ln"); (case' h320 => wtm_at "ln"); (case' l20 => wtm_at "ln"); (case' k20 => intro _ _ _ _ _))
  | ((with_reducible refine' g_append ?h21 ?l21 ?k21); (case' h21 => wtm_at "hp"); (case' l21 => wtm_at "ln"); (case' k21 => intro _ _ _))
  | ((with_reducible refine' g_kBM ?h22 ?k22); (case' h22 => wtm_at "sl"))
  | ((with_reducible refine' g_kBM0 ?h23 ?k23); (case' h23 => wtm_at "sl"))
  | ((with_reducible refine' g_kL ?h24 ?k24); (case' h24 => wtm_at "sl"))
  | ((with_reducible refine' g_kR1 ?h125 ?h225 ?k25); (case' h125 => wtm_at "ln"); (case' h225 => wtm_at "ln"))
  | ((with_reducible refine' g_kR2 ?h126 ?h226 ?h326 ?h426 ?k26); (case' h126 => wtm_at "ln"); (case' h226 => wtm_at "ln"); (case' h326 => wtm_at "ln"); (case' h426 => wtm_at "ln"))
  | ((with_reducible refine' g_lenL ?h27 ?k27); (case' h27 => wtm_at "sl"))
  | ((with_reducible refine' g_lenT ?h28 ?k28); (case' h28 => wtm_at "st"))
  | ((with_reducible refine' g_listL ?h29 ?k29); (case' h29 => wtm_at "sl"); (case' k29 => intro _ _ _ _ _))
  | ((with_reducible refine' g_tupleL ?h30 ?k30); (case' h30 => wtm_at "sl"); (case' k30 => intro _ _ _ _ _))
  | with_reducible refine' g_max ?_
  | with_reducible refine' g_min ?_
  | with_reducible refine' g_intB ?_
  | with_reducible refine' g_fld ?_
  | with_reducible refine' g_put ?_
  | with_reducible refine' g_dget ?_
  | with_reducible refine' g_isN ?_
  | with_reducible refine' g_notN ?_
  | with_reducible refine' g_ifE ?_
  | with_reducible refine' g_andV ?_
  | with_reducible refine' g_orV ?_
  | with_reducible refine' g_notV ?_
  | with_reducible refine' g_kIf ?_
  | with_reducible refine' g_chain ?_
  | with_reducible refine' g_kCh ?_
  | with_reducible refine' g_sub ?_
  | ((with_reducible refine' g_setI ?h92 ?e92 ?j92 ?k92); (case' h92 => wtm_at "hp"); (case' e92 => first | exact rfl | assumption); (case' j92 => wtm_at "ln"); (case' k92 => intro _ _ _))
  | ((with_reducible refine' g_setL ?h89 ?i89 ?k89); (case' h89 => wtm_at "hp"); (case' i89 => exact ixE rfl (by wtm_at "ln")); (case' k89 => intro _ _ _))
  | ((with_reducible refine' g_gtup ?h93 ?e93 ?k93); (case' h93 => wtm_at "st"); (case' e93 => exact rfl))
  | with_reducible refine' g_gcons ?_
  | with_reducible refine' g_gnil ?_
  | with_reducible refine' g_par ?_
  | with_reducible refine' g_kPar ?_
  | with_reducible refine' g_meth ?_
  | with_reducible refine' g_bm ?_
  | with_reducible refine' g_bm0 ?_
  | with_reducible refine' g_raise ?_
  | with_reducible refine' g_for ?_
  | with_reducible refine' g_iR1 ?_
  | with_reducible refine' g_iR2 ?_
  | with_reducible refine' g_iL ?_
  | with_reducible refine' g_lc ?_
  | with_reducible refine' g_retN ?_
  | with_reducible refine' g_no (b := false) rfl ?_
  | with_reducible refine' g_yes (b := true) rfl ?_)
local macro_rules | `(tactic| wtm_at "go") => `(tactic| repeat (wtm_at "g1"))
local macro_rules | `(tactic| wtm_at "gs") => `(tactic| repeat ((fail_if_success (with_reducible refine' g_ifE ?_)); wtm_at "g1"))
local macro_rules | `(tactic| wtm_at "gi") => `(tactic| repeat ((fail_if_success (with_reducible refine' g_if ?_)); wtm_at "g1"))
local macro_rules | `(tactic| wtm_at "gr") => `(tactic| repeat ((fail_if_success (with_reducible refine' g_ret ?_)); wtm_at "g1"))
local macro_rules | `(tactic| wtm_at "gq") => `(tactic| repeat ((fail_if_success (with_reducible refine' g_asg ?_)); wtm_at "g1"))
/-! ### the law -/
section
variable {K : PySem.W.Frag} {H H1 H0 : Hp}
theorem extn_at (e : LamX.ExtN H H1) {a : Addr} {o : HO} (h : H a = some o) (n : ∀ ps, o ≠ .tbl ps) : H1 a = some o := e a o h n
theorem extn_sqL (e : LamX.ExtN H H1) {a : Addr} {xs : List V} (h : SqL K H a xs) : SqL K H1 a xs := by
  rcases h with (h | ⟨o, h⟩) | h
  · exact .inl (.inl (e _ _ h fun _ z => nomatch z))
  · exact .inl (.inr ⟨o, e _ _ h fun _ z => nomatch z⟩)
  · exact .inr h
theorem extn_sqT (e : LamX.ExtN H H1) {a : Addr} {xs : List V} (h : SqT K H a xs) : SqT K H1 a xs := by
  rcases h with (h | ⟨o, h⟩) | h
  · exact .inl (.inl (e _ _ h fun _ z => nomatch z))
  · exact .inl (.inr ⟨o, e _ _ h fun _ z => nomatch z⟩)
  · exact .inr h
mutual
theorem extn_dp (e : LamX.ExtN H H1) : ∀ {v : V} {d : PyData}, Dp K H v d → Dp K H1 v d
  | _, _, .non => .non
  | _, _, .bl b => .bl b
  | _, _, .int i => .int i
  | _, _, .str x => .str x
  | _, _, .lst h a => .lst (extn_sqL e h) (extn_dpA e a)
  | _, _, .tup h a => .tup (extn_sqT e h) (extn_dpA e a)
theorem extn_dpA (e : LamX.ExtN H H1) : ∀ {vs : List V} {ds : List PyData}, DpAll K H vs ds → DpAll K H1 vs ds
  | _, _, .nil => .nil
  | _, _, .cons h r => .cons (extn_dp e h) (extn_dpA e r)
end
theorem MetAt.extn {C p pm pp : Addr} {μ : Mt} (M : MetAt K C H p pm pp μ) (e : LamX.ExtN H H1) : MetAt K C H1 p pm pp μ := by
  obtain ⟨⟨dx, ob⟩, me, ⟨vs, pr, dp⟩, ne⟩ := M
  exact ⟨⟨dx, e _ _ ob fun _ z => nomatch z⟩, e _ _ me (fun _ z => nomatch z), ⟨vs, e _ _ pr (fun _ z => nomatch z), extn_dpA e dp⟩, ne⟩
/-- a heap without tables -/
def NoTbl (H0 : Hp) : Prop := ∀ b o, H0 b = some o → ∀ ps, o ≠ .tbl ps
theorem StAt.extn {r : Addr} (s : StAt K H0 H r) (n : NoTbl H0) (e : LamX.ExtN H H1) : StAt K H0 H1 r := by
  obtain ⟨⟨a, ns, i, m, l, h, q⟩, fr, mx⟩ := s
  exact ⟨⟨a, ns, i, m, l, e _ _ h (fun _ z => nomatch z), q⟩, fr, fun b o hb _ => e b o (mx.get0 hb) (n b o hb)⟩
/-- drawing asks for the script alone -/
theorem StAt.cut {r : Addr} (s : StAt K H H1 r) : ∃ H0, (∀ x, H x = none → H0 x = none) ∧ NoTbl H0 ∧ StAt K H0 H1 r := by
  obtain ⟨⟨a, ns, i, m, l, h, hS, q⟩, fr, mx⟩ := s
  have hnt : (∃ o, H a = some o ∧ (∀ ps, o ≠ .tbl ps) ∧ SqL K (fun b => if b = a then some o else none) a (ns.map V.int)) ∨ SqL K (fun _ => none) a (ns.map V.int) := by
    rcases hS with (h | ⟨o, h⟩) | h
    · exact .inl ⟨_, h, (fun _ z => nomatch z), .inl (.inl (if_pos rfl))⟩
    · exact .inl ⟨_, h, (fun _ z => nomatch z), .inl (.inr ⟨o, if_pos rfl⟩)⟩
    · exact .inr (.inr h)
  rcases hnt with ⟨o, ho, no, hS'⟩ | hS'
  · refine ⟨fun b => if b = a then some o else none, fun x hx => if_neg (fun z => by rw [z, ho] at hx; cases hx), fun b o' hb => ?_, ⟨a, ns, i, m, l, h, hS', q⟩, if_neg (fun z => by rw [z, ho] at fr; cases fr), fun b o' hb _ => ?_⟩
    · have hb : (if b = a then some o else none) = some o' := hb
      split at hb
      · cases hb; exact no
      · cases hb
    · have hb : (if b = a then some o else none) = some o' := hb
      split at hb
      · rename_i z
        cases hb
        rw [z]
        exact mx.get0 ho
      · cases hb
  · exact ⟨fun _ => none, fun _ _ => rfl, fun _ _ z => (nomatch z), ⟨a, ns, i, m, l, h, hS', q⟩, rfl, fun _ _ z => (nomatch z)⟩
/-- what is written is no table, no code object -/
def NoX (H : Hp) (S : List Addr) : Prop := ∀ x ∈ S, ∀ o, H x = some o → (∀ ps, o ≠ .tbl ps) ∧ ∀ f, o ≠ .ext f
theorem Tabs.mx {T : List (Addr × Str)} {S : List Addr} (t : LamX.Tabs T H) (m : Mx S H H1) (n : NoX H S) : LamX.Tabs T H1 := fun p hp => by
  obtain ⟨ps, h1, h2, h3⟩ := t p hp
  refine ⟨ps, m _ _ h1 fun z => (n _ z _ h1).1 ps rfl, h2, fun pos cv hc => ?_⟩
  obtain ⟨c, e1, e2⟩ := h3 pos cv hc
  exact ⟨c, e1, m _ _ e2 fun z => (n _ z _ e2).2 _ rfl⟩
theorem Tabs.mx0 {T : List (Addr × Str)} (t : LamX.Tabs T H) (m : Mx [] H H1) : LamX.Tabs T H1 := Tabs.mx t m fun _ z => by simp at z
theorem noX_lst {a : Addr} {xs : List V} (h : H a = some (.lst xs)) : ∀ o, H a = some o → (∀ ps, o ≠ .tbl ps) ∧ ∀ f, o ≠ .ext f := fun o e => by
  rw [h] at e; cases e; exact ⟨(fun _ z => nomatch z), (fun _ z => nomatch z)⟩
theorem noX_dK {a : Addr} {xs : List (Key × V)} (h : H a = some (.dK xs)) : ∀ o, H a = some o → (∀ ps, o ≠ .tbl ps) ∧ ∀ f, o ≠ .ext f := fun o e => by
  rw [h] at e; cases e; exact ⟨(fun _ z => nomatch z), (fun _ z => nomatch z)⟩
theorem noX_ins {a C dx : Addr} {fs : List (Str × V)} (h : H a = some (.ins C dx fs)) : ∀ o, H a = some o → (∀ ps, o ≠ .tbl ps) ∧ ∀ f, o ≠ .ext f := fun o e => by
  rw [h] at e; cases e; exact ⟨(fun _ z => nomatch z), (fun _ z => nomatch z)⟩
theorem StAt.nx {r : Addr} (s : StAt K H0 H r) : NoX H [r] := by
  obtain ⟨_, _, _, _, _, h, _⟩ := s.ex
  intro x hx
  simp at hx
  subst hx
  exact noX_lst h
theorem LmAt.nx {q qc qs : Addr} {μ : Mt} (M : LmAt K H q qc qs μ) : NoX H [q, qc, qs] := by
  obtain ⟨ob, ce, ⟨vs, st, dp⟩, ne⟩ := M
  intro x hx
  simp only [List.mem_cons, List.not_mem_nil, or_false] at hx
  rcases hx with rfl | rfl | rfl
  · exact noX_dK ob
  · exact noX_lst ce
  · exact noX_lst st
theorem MetAt.nx {C p pm pp : Addr} {μ : Mt} (M : MetAt K C H p pm pp μ) : NoX H [p, pm, pp] := by
  obtain ⟨⟨dx, ob⟩, me, ⟨vs, pr, dp⟩, ne⟩ := M
  intro x hx
  simp only [List.mem_cons, List.not_mem_nil, or_false] at hx
  rcases hx with rfl | rfl | rfl
  · exact noX_ins ob
  · exact noX_lst me
  · exact noX_lst pr
theorem LmAt.nt {q qc qs : Addr} {μ : Mt} (M : LmAt K H q qc qs μ) : NoTup H [q, qc, qs] := by
  obtain ⟨ob, ce, ⟨vs, st, dp⟩, ne⟩ := M
  exact (noTupD ob).cons ((noTup1 ce).cons (noTup1 st))
theorem MetAt.nt {C p pm pp : Addr} {μ : Mt} (M : MetAt K C H p pm pp μ) : NoTup H [p, pm, pp] := by
  obtain ⟨⟨dx, ob⟩, me, ⟨vs, pr, dp⟩, ne⟩ := M
  exact (noTupI ob).cons ((noTup1 me).cons (noTup1 pr))
end
/-- _law_kind(lambda: ..) -/
theorem q_kind {X : Cx} {K : PySem.W.Frag} {mg : Str → Option Value} (T : Tx K mg) {c Pt : Addr} {k : Nat} {params : Arguments} {body : Expr} {scope : Scope} {t : XK → TE} {p lpos pos : Pos} (TB : LamX.TabB X.base X.mg c Pt) (hcode : X.env.code = .ref c) (hr : Room (k + 2) X.A)
    (L : LamX.LamS X.env.scope scope) (hdef : defaultsOf params X.env = ([], [])) (hbind : ∀ (q : Str) (cl : List (Str × Addr)) (pm cv ctv : Value), bindArgs (PySem.W.kla_fn "<lambda>" q params body scope cl pm cv ctv) ⟨[], []⟩ = pure [])
    (hbody : ∀ (A : Around) (outer : List Env) (s : Shared) (H : Hp) (E : XK) (f c' : Addr), Room k (A.deeper (LamX.lamEnv X scope s.heap.objs.size f c')) → PE (LamX.lamCx X A outer s H E scope f c') body (t E)) (hg : Gl X "_law_kind") (hK : X.K = K := by rfl) (hm : X.mg = mg := by rfl) :
    PE X (.Call (.Name "_law_kind" p) [.Lambda params body scope lpos] [] pos) (LamX.tLam [(Pt, X.env.qual ++ "<lambda>")] (TKind T) t) := by
  subst hK hm
  obtain ⟨oc, od, kV, doc, pm, an, cdv, ct, osl, hd, lk, hcd⟩ := T.f__law_kind.F.ex
  have hb := T.f__law_kind.b
  rw [hd] at lk hb
  exact LamX.pe_lamcall (k := k) (Ng := N__law_kind) hg T.f__law_kind.g T.f__law_kind.F.kp lk hcd hb sc__law_kind rfl (.inl rfl) (kind_gives T (hr.mono (by omega))) TB hcode (List.mem_singleton.mpr rfl) (fun p hp _ => by rw [List.mem_singleton.mp hp]) hr L hdef hbind hbody
end Fk
namespace Fk
open PySem PySem.Spec PyProof.Rows L2
local macro_rules | `(tactic| wtm_at "ln") => `(tactic| first
  | omega
  | (simp only [List.length_cons, List.length_nil, List.length_map, List.length_append, List.length_replicate, List.length_take, List.length_drop, List.length_set]; omega)
  | (with_unfolding_all exact (by decide)))
local macro_rules | `(tactic| wtm_at "ar") => `(tactic| first
  | ((with_reducible show CMulW _ _); (refine' mulS ?_ ?_ <;> omega))
  | ((with_reducible show CDivW _ _); (refine' divS ?_ ?_ <;> omega))
  | ((with_reducible show CPow _ _); exact ⟨by decide, by decide, by decide⟩)
  | (show (0 : Int) < _; omega)
  | (with_unfolding_all exact (by decide)))
local macro_rules | `(tactic| wtm_at "at") => `(tactic| first
  | assumption
  | (refine' cl_atE ?e80 ?h80; (case' e80 => first | exact rfl | assumption); (case' h80 => wtm_at "ln"))
  | exact rfl)
local macro_rules | `(tactic| wtm_at "fr") => `(tactic| first
  | assumption
  | ((with_reducible refine' Mx.free0 ?m99 ?h99); (case' h99 => assumption); (case' m99 => wtm_at "mo")))
local macro_rules | `(tactic| wtm_at "hp") => `(tactic| first
  | assumption
  | ((with_reducible refine' Mx.get0 ?m1 ?h1); (case' m1 => assumption); (case' h1 => wtm_at "hp"))
  | ((with_reducible refine' Mx.get ?m2 ?n2 ?h2); (case' m2 => assumption); (case' n2 => wtm_at "nin"); (case' h2 => wtm_at "hp")))
local macro_rules | `(tactic| wtm_at "sl") => `(tactic| first
  | assumption
  | ((with_reducible refine' Mx.sqL0 ?m96 ?h96); (case' h96 => assumption); (case' m96 => wtm_at "mo"))
  | (refine' SqL.of ?h3; (case' h3 => wtm_at "hp"))
  | ((with_reducible refine' Mx.sqL0 ?m4 ?h4); (case' m4 => assumption); (case' h4 => wtm_at "sl"))
  | ((with_reducible refine' Mx.sqL ?m5 ?n5 ?h5); (case' m5 => assumption); (case' n5 => wtm_at "nin"); (case' h5 => wtm_at "sl")))
local macro_rules | `(tactic| wtm_at "st") => `(tactic| first
  | assumption
  | ((with_reducible refine' Mx.sqT0 ?m97 ?h97); (case' h97 => assumption); (case' m97 => wtm_at "mo"))
  | (refine' SqT.of ?h6; (case' h6 => wtm_at "hp"))
  | ((with_reducible refine' Mx.sqT0 ?m7 ?h7); (case' m7 => assumption); (case' h7 => wtm_at "st"))
  | ((with_reducible refine' Mx.sqT ?m8 ?n8 ?h8); (case' m8 => assumption); (case' n8 => wtm_at "nin"); (case' h8 => wtm_at "st")))
local macro_rules | `(tactic| wtm_at "mx") => `(tactic| first
  | assumption
  | exact Mx.refl
  | ((with_reducible refine' Mx.of0 ?h9); (case' h9 => assumption))
  | ((with_reducible refine' Mx.trans ?h10 ?m10); (case' m10 => first | assumption | ((with_reducible refine' Mx.of0 ?q10); (case' q10 => assumption))); (case' h10 => wtm_at "mx")))
local macro_rules | `(tactic| wtm_at "mo") => `(tactic| first
  | wtm_at "mx"
  | ((with_reducible refine' Mx.own ?m90 ?f90 ?k90); (case' k90 => assumption); (case' f90 => wtm_at "fr"); (case' m90 => wtm_at "mo"))
  | ((with_reducible refine' Mx.trans ?h91 ?m91); (case' m91 => first | assumption | ((with_reducible refine' Mx.of0 ?q91); (case' q91 => assumption))); (case' h91 => wtm_at "mo")))
local macro_rules | `(tactic| wtm_at "ne") => `(tactic| first
  | assumption
  | exact Ne.symm (by assumption)
  | ((with_reducible refine' ne_of_none ?x94 ?y94); (case' y94 => assumption); (case' x94 => wtm_at "hp"))
  | ((with_reducible refine' Ne.symm (ne_of_none ?x95 ?y95)); (case' y95 => assumption); (case' x95 => wtm_at "hp")))
local macro_rules | `(tactic| wtm_at "nin") => `(tactic| first
  | assumption
  | exact List.not_mem_nil
  | ((with_reducible refine' List.not_mem_cons_of_ne_of_not_mem ?h98 ?t98); (case' h98 => wtm_at "ne"); (case' t98 => wtm_at "nin")))
local macro_rules | `(tactic| wtm_at "g1") => `(tactic| first
  | ((with_reducible refine' g_var ?h11 ?k11); (case' h11 => exact rfl))
  | with_reducible refine' g_c ?_
  | with_reducible refine' g_op ?_
  | with_reducible refine' g_I0 ?_
  | ((with_reducible refine' g_I ?c12 ?k12); (case' c12 => wtm_at "ar"))
  | with_reducible refine' g_cons ?_
  | with_reducible refine' g_nil ?_
  | with_reducible refine' g_seq ?_
  | with_reducible refine' g_asg ?_
  | with_reducible refine' g_name ?_
  | with_reducible refine' g_ret ?_
  | with_reducible refine' g_if ?_
  | with_reducible refine' g_test ?_
  | with_reducible refine' g_tB ?_
  | with_reducible refine' g_bl ?_
  | ((with_reducible refine' g_eq ?h13 ?k13); (case' h13 => exact rfl))
  | ((with_reducible refine' g_ne ?h14 ?k14); (case' h14 => exact rfl))
  | with_reducible refine' g_CB ?_
  | with_reducible refine' g_call ?_
  | with_reducible refine' g_drop ?_
  | with_reducible refine' g_next ?_
  | with_reducible refine' g_not ?_
  | with_reducible refine' g_and ?_
  | with_reducible refine' g_or ?_
  | with_reducible refine' g_un ?_
  | with_reducible refine' g_U ?_
  | with_reducible refine' g_tup ?_
  | with_reducible refine' g_lst ?_
  | ((with_reducible refine' g_kNew ?h15 ?k15); (case' h15 => wtm_at "ln"); (case' k15 => intro _ _ _ _ _))
  | ((with_reducible refine' g_ixL ?h16 ?a16 ?k16); (case' h16 => wtm_at "sl"); (case' a16 => wtm_at "at"))
  | ((with_reducible refine' g_ixT ?h17 ?a17 ?k17); (case' h17 => wtm_at "st"); (case' a17 => wtm_at "at"))
  | with_reducible refine' g_slice ?_
  | with_reducible refine' g_part ?_
  | with_reducible refine' g_kPart ?_
  | with_reducible refine' g_noPart ?_
  | ((with_reducible refine' g_slL ?h18 ?k18); (case' h18 => wtm_at "sl"); (case' k18 => intro _ _ _ _ _))
  | ((with_reducible refine' g_cat ?h119 ?h219 ?l19 ?k19); (case' h119 => wtm_at "hp"); (case' h219 => wtm_at "hp"); (case' l19 => wtm_at "ln"); (case' k19 => intro _ _ _ _ _))
  | ((with_reducible refine' g_rep ?h120 ?h220 ?h320 ?l20 ?k20); (case' h120 => wtm_at "hp"); (case' h220 => wtm_at "ln"); (case' h320 => wtm_at "ln"); (case' l20 => wtm_at "ln"); (case' k20 => intro _ _ _ _ _))
  | ((with_reducible refine' g_append ?h21 ?l21 ?k21); (case' h21 => wtm_at "hp"); (case' l21 => wtm_at "ln"); (case' k21 => intro _ _ _))
  | ((with_reducible refine' g_kBM ?h22 ?k22); (case' h22 => wtm_at "sl"))
  | ((with_reducible refine' g_kBM0 ?h23 ?k23); (case' h23 => wtm_at "sl"))
  | ((with_reducible refine' g_kL ?h24 ?k24); (case' h24 => wtm_at "sl"))
  | ((with_reducible refine' g_kR1 ?h125 ?h225 ?k25); (case' h125 => wtm_at "ln"); (case' h225 => wtm_at "ln"))
  | ((with_reducible refine' g_kR2 ?h126 ?h226 ?h326 ?h426 ?k26); (case' h126 => wtm_at "ln"); (case' h226 => wtm_at "ln"); (case' h326 => wtm_at "ln"); (case' h426 => wtm_at "ln"))
  | ((with_reducible refine' g_lenL ?h27 ?k27); (case' h27 => wtm_at "sl"))
  | ((with_reducible refine' g_lenT ?h28 ?k28); (case' h28 => wtm_at "st"))
  | ((with_reducible refine' g_listL ?h29 ?k29); (case' h29 => wtm_at "sl"); (case' k29 => intro _ _ _ _ _))
  | ((with_reducible refine' g_tupleL ?h30 ?k30); (case' h30 => wtm_at "sl"); (case' k30 => intro _ _ _ _ _))
  | with_reducible refine' g_max ?_
  | with_reducible refine' g_min ?_
  | with_reducible refine' g_intB ?_
  | with_reducible refine' g_fld ?_
  | with_reducible refine' g_put ?_
  | with_reducible refine' g_dget ?_
  | with_reducible refine' g_isN ?_
  | with_reducible refine' g_notN ?_
  | with_reducible refine' g_ifE ?_
  | with_reducible refine' g_andV ?_
  | with_reducible refine' g_orV ?_
  | with_reducible refine' g_notV ?_
  | with_reducible refine' g_kIf ?_
  | with_reducible refine' g_chain ?_
  | with_reducible refine' g_kCh ?_
  | with_reducible refine' g_sub ?_
  | ((with_reducible refine' g_setI ?h92 ?e92 ?j92 ?k92); (case' h92 => wtm_at "hp"); (case' e92 => first | exact rfl | assumption); (case' j92 => wtm_at "ln"); (case' k92 => intro _ _ _))
  | ((with_reducible refine' g_setL ?h89 ?i89 ?k89); (case' h89 => wtm_at "hp"); (case' i89 => exact ixE rfl (by wtm_at "ln")); (case' k89 => intro _ _ _))
  | ((with_reducible refine' g_gtup ?h93 ?e93 ?k93); (case' h93 => wtm_at "st"); (case' e93 => exact rfl))
  | with_reducible refine' g_gcons ?_
  | with_reducible refine' g_gnil ?_
  | with_reducible refine' g_par ?_
  | with_reducible refine' g_kPar ?_
  | with_reducible refine' g_meth ?_
  | with_reducible refine' g_bm ?_
  | with_reducible refine' g_bm0 ?_
  | with_reducible refine' g_raise ?_
  | with_reducible refine' g_for ?_
  | with_reducible refine' g_iR1 ?_
  | with_reducible refine' g_iR2 ?_
  | with_reducible refine' g_iL ?_
  | with_reducible refine' g_lc ?_
  | with_reducible refine' g_retN ?_
  | with_reducible refine' g_no (b := false) rfl ?_
  | with_reducible refine' g_yes (b := true) rfl ?_)
local macro_rules | `(tactic| wtm_at "go") => `(tactic| repeat (wtm_at "g1"))
local macro_rules | `(tactic| wtm_at "gs") => `(tactic| repeat ((fail_if_success (with_reducible refine' g_ifE ?_)); wtm_at "g1"))
local macro_rules | `(tactic| wtm_at "gi") => `(tactic| repeat ((fail_if_success (with_reducible refine' g_if ?_)); wtm_at "g1"))
local macro_rules | `(tactic| wtm_at "gr") => `(tactic| repeat ((fail_if_success (with_reducible refine' g_ret ?_)); wtm_at "g1"))
local macro_rules | `(tactic| wtm_at "gq") => `(tactic| repeat ((fail_if_success (with_reducible refine' g_asg ?_)); wtm_at "g1"))

/-! ### _law_kind(x), x a known lambda, in a comprehension of the def that made it -/
abbrev KL : Nat := 9 - 3
def tKindV {K : PySem.W.Frag} {mg : Str → Option Value} (T : Tx K mg) (X : Cx) (q : Str) (i : Nat) (σ0 : L2.St) : TE := fun σ H Q => ∃ f t, σ[i]? = some (some (.ref f)) ∧ Cal X KL q t H f ∧ TKind T (fun E H' Q' => t E σ0 H' Q') H Q
theorem q_kindV {X : Cx} {K : PySem.W.Frag} {mg : Str → Option Value} (T : Tx K mg) {sB : Shared} {HB : Hp} {scope : Scope} {ce : Env} {fp : List Addr} {ps : List (Addr × Obj)} {σ0 : L2.St} {i : Nat} {x : Str} {p p2 pos : Pos} (I0 : Inv X ps σ0 HB sB) (f0 : ∀ b ∈ fp, FpOk X ps HB b)
    (hN : X.N[i]? = some x) (hv : Vis ce.scope x) (hr : Room (KL + 2) X.A) (hg : Gl (X.blk sB HB scope ce fp) "_law_kind") (hK : X.K = K := by rfl) (hm : X.mg = mg := by rfl) (hd : (x == ("__debug__" : Str)) = false := by decide) (hcd : (x == ("__classdict__" : Str)) = false := by decide) :
    PE (X.blk sB HB scope ce fp) (.Call (.Name "_law_kind" p) [.Name x p2] [] pos) (tKindV T X (X.env.qual ++ "<lambda>") i σ0) := by
  subst hK hm
  refine ⟨fun pins s σ H Q I w => ?_⟩
  obtain ⟨f, t, slot, ⟨ar, bo, sc, d, objH, codeH, L, hq, hbind, hbody⟩, kd⟩ := w
  obtain ⟨oc, od, kV, doc, pm, an, cdv, ct, osl, hfd, lk, hcode⟩ := T.f__law_kind.F.ex
  have hb := T.f__law_kind.b
  rw [hfd] at lk hb
  refine wpAny_Call_Name_kw (ld_glob I hg T.f__law_kind.g ?_ (by decide))
  refine PySem.W.callWith_K (h₀ := X.base) I.ok.mod.kin T.f__law_kind.F.kp ?_ (by rfl) (by rfl)
  show wpAny _ _ (spliced ((false, eval (.Name x p2) (X.blk sB HB scope ce fp).env) :: backTo pos (starEach [] (X.blk sB HB scope ce fp).env))) _ _ s
  refine Calls.spliced_cons (thn ((pe_var (X := X.blk sB HB scope ce fp) (pos := p2) (i := i) hN hv hd hcd).run pins s σ H (fun v H1 => v = .ref f ∧ H1 = H) I ⟨.ref f, slot, rfl, rfl⟩) ?_)
  rintro u s1 ⟨v, H1, I1, rv, ev, eh⟩
  subst ev eh
  have hu : u = Value.ref f := rv
  subst hu
  refine Calls.spliced_nil ⟨I1.kIn, ?_⟩
  have IX : Inv X ps σ0 H1 s1 := I0.call' (ch := fp) I1.os I1.base I1.hok I1.bare fun b hb => ⟨(f0 b hb).2.2.2.1, (f0 b hb).2.1, (f0 b hb).2.2.2.2.1, (f0 b hb).2.2.2.2.2⟩
  have run : codeAny (model X.prog X.w) X.A (.call (.ref T.f__law_kind.a) ⟨[.ref f], []⟩) (CR C8.CX0 X.stack X.prog X.w H1 s1 Q C8.E0) s1 := by
    refine LamX.run_ofS (N := N__law_kind) (ps := ["_law_work"]) (us := [.ref f]) (vs := [.ref f]) lk hcode sc__law_kind hr IX.env0 (hb s1 [.ref f] IX.kIn rfl) (.cons rfl .nil) rfl fun hr2 => ?_
    have kd2 : TKind T (fun E H' Q' => H' f = some (LamO (X.env.qual ++ "<lambda>") ar bo sc (cloFrom X.env.cells sc.names []) d f) ∧ t E σ0 H' Q') H1 Q := by
      unfold TKind at kd ⊢
      exact ⟨objH, kd⟩
    obtain ⟨t', ht', hq'⟩ := kind_gives T (cdv := cdv) (q := X.env.qual ++ "<lambda>") (hr.mono (by decide)) f d s1 H1 Q _ (fun W pn xe E p1 p2 tk hW => pe_lamRun (i := 0) IX L hq hbind tk hW hr2 (fun A outer s H hr3 => hbody A outer s H E f d hr3) rfl (.inl rfl)) codeH kd2
    exact ⟨t', ht'.nox, hq'⟩
  refine wpAny_call (codeAny_mono run ?_)
  intro r s' out
  match r, out with
  | .error e, out => exact (show False from out).elim
  | .ok (.ret u), out => exact I1.after out
  | .ok .next, out => exact out.elim
  | .ok .brk, out => exact out.elim
  | .ok .cont, out => exact out.elim
theorem StAt.new {K : PySem.W.Frag} {H0 H : Hp} {r l : Addr} (s : StAt K H0 H r) (h : H l = none) : l ≠ r := by
  rintro rfl
  obtain ⟨_, _, _, _, _, e, _⟩ := s.ex
  rw [h] at e
  cases e
section
variable {P : Program} {w : World} {K : PySem.W.Frag} {mg : Str → Option Value} {base : Heap}
local macro_rules | `(tactic| wtm_at "g1") => `(tactic| first
  | ((with_reducible refine' g_fOwn (by assumption) ?h201 ?k201); (case' h201 => wtm_at "hp"))
  | ((with_reducible refine' g_fKey (by assumption) ?h202 ?k202); (case' h202 => wtm_at "hp"))
  | ((with_reducible refine' g_fMem (by assumption) ?h203 ?k203); (case' h203 => wtm_at "hp"))
  | ((with_reducible refine' g_fPri (by assumption) ?h204 ?k204); (case' h204 => wtm_at "hp"))
  | ((with_reducible refine' g_fAwa (by assumption) ?h205 ?k205); (case' h205 => wtm_at "hp"))
  | ((with_reducible refine' g_pAwa (by assumption) ?h206 ?k206); (case' h206 => wtm_at "hp"); (case' k206 => intro _ _ _))
  | ((with_reducible refine' g_kMeth ?h207 ?l207 ?k207); (case' h207 => wtm_at "hp"); (case' l207 => exact rfl)))

local macro_rules | `(tactic| wtm_at "g1") => `(tactic| first
  | ((with_reducible refine' g_dNum ?h311 ?k311); (case' h311 => wtm_at "hp"))
  | ((with_reducible refine' g_dKey ?h312 ?k312); (case' h312 => wtm_at "hp"))
  | ((with_reducible refine' g_dCe ?h313 ?k313); (case' h313 => wtm_at "hp"))
  | ((with_reducible refine' g_dSt ?h314 ?k314); (case' h314 => wtm_at "hp"))
  | ((with_reducible refine' g_dUp ?h315 ?k315); (case' h315 => wtm_at "hp"))
  | ((with_reducible refine' g_kDGetS ?h301 ?l301 ?k301); (case' h301 => wtm_at "hp"); (case' l301 => exact rfl))
  | (with_reducible refine' g_dput ?_)
  | (with_reducible refine' g_iK ?_)
  | ((with_reducible refine' g_disp ?k305); (case' k305 => intro _ _ _ _ _))
  | (with_reducible refine' g_pcons ?_)
  | (with_reducible refine' g_pnil ?_)
  | ((with_reducible refine' g_kDisp ?h306 ?e306 ?f306 ?l306 ?k306); (case' h306 => wtm_at "hp"); (case' e306 => exact rfl); (case' f306 => exact rfl); (case' l306 => wtm_at "ln"); (case' k306 => intro _ _ _))
  | ((with_reducible refine' g_pUp ?h302 ?k302); (case' h302 => wtm_at "hp"); (case' k302 => intro _ _ _))
  | ((with_reducible refine' g_pSt ?h303 ?k303); (case' h303 => wtm_at "hp"); (case' k303 => intro _ _ _))
  | ((with_reducible refine' g_pCe ?h304 ?k304); (case' h304 => wtm_at "hp"); (case' k304 => intro _ _ _)))

/-- a number below nought or beyond another one -/
def spFar : Sp := fun vs H Q _ => ∃ (H0 : Hp) (r : Addr) (n : Int), vs = [.ref r, .int n] ∧ StAt K H0 H r ∧ ∀ x H', (x < 0 ∨ n < x) → Mx [r] H H' → StAt K H0 H' r → Q (.int x) H'
theorem c__law_far (T : Tx K mg) : Cl P w K mg base 2 "_law_far" (spFar (K := K)) [] := by
  refine T.f__law_far.cl sc__law_far (fun vs H Q E h => ?_) (fun cdv A outer s H vs Q E hr h => ?_)
  · obtain ⟨_, _, _, rfl, _⟩ := h
    rfl
  · obtain ⟨H0, r, n, rfl, S, q⟩ := h
    refine ⟨_, (pss_cons (ps_set (i := 2) sc__law_far.nd rfl (Or.inl rfl) (pe_ix (ixL K) (pe_lst (pa_cons pe_int (pa_cons pe_int (pa_cons (pe_op op_pow pe_int pe_int) pa_nil)))) (q_call (c__law_drawn T) hr (by decide) rfl (passes_call (takes_of rfl rfl rfl rfl) (fun _ _ _ _ h => h)) (pa_cons (pv 0) (pa_cons pe_int pa_nil))) (fun _ _ => rfl)))
      (pss_one (ps_ret (pe_ix (ixL K) (pe_lst (pa_cons (pe_op op_sub (pe_op op_sub pe_int pe_int) (q_call (c__law_drawn T) hr (by decide) rfl (passes_call (takes_of rfl rfl rfl rfl) (fun _ _ _ _ h => h)) (pa_cons (pv 0) (pa_cons (pv 2) pa_nil)))) (pa_cons (pe_op op_add (pe_op op_add (pv 1) pe_int) (q_call (c__law_drawn T) hr (by decide) rfl (passes_call (takes_of rfl rfl rfl rfl) (fun _ _ _ _ h => h)) (pa_cons (pv 0) (pa_cons (pv 2) pa_nil)))) pa_nil))) (q_call (c__law_drawn T) hr (by decide) rfl (passes_call (takes_of rfl rfl rfl rfl) (fun _ _ _ _ h => h)) (pa_cons (pv 0) (pa_cons pe_int pa_nil))) (fun _ _ => rfl))))), ?_⟩
    refine g_seq ?_
    refine g_cutS (fun N => ∀ (f : Int) H1, 0 < f → f < 2 ^ 300 → Mx [r] H H1 → StAt K H0 H1 r → N [some (.ref r), some (.int n), some (.int f)] H1) (fun N hN => ?_) (fun f H1 f0 f1 m1 S1 => ?_)
    · wtm_at "go"
      rename_i l H1 n1 m1 e1
      have ne := S.new n1
      refine ⟨H0, r, 3, rfl, S.mx0 m1, by omega, by omega, fun y H2 y0 y1 m2 S2 => ?_⟩
      have e2 : H2 l = some (.lst [.int 1, .int 20, .int (10 ^ (29 : Int).toNat)]) := m2 _ _ e1 (by simpa using ne)
      have c2 : Mx [r] H H2 := m1.of0.trans m2
      have hy : y = 0 ∨ y = 1 ∨ y = 2 := by omega
      rcases hy with rfl | rfl | rfl
      · wtm_at "go"
        exact hN _ _ (by decide) (by decide) c2 S2
      · wtm_at "go"
        exact hN _ _ (by decide) (by decide) c2 S2
      · wtm_at "go"
        exact hN _ _ (by decide) (by decide) c2 S2
    · wtm_at "go"
      refine ⟨H0, r, f, rfl, S1, f0, f1, fun x H2 x0 x1 m2 S2 => ?_⟩
      wtm_at "go"
      refine ⟨H0, r, f, rfl, S2, f0, f1, fun x' H3 x0' x1' m3 S3 => ?_⟩
      wtm_at "go"
      rename_i l H4 n4 m4 e4
      have ne := S3.new n4
      refine ⟨H0, r, 2, rfl, S3.mx0 m4, by omega, by omega, fun y H5 y0 y1 m5 S5 => ?_⟩
      have e5 : H5 l = some (.lst [.int (0 - 1 - x), .int (n + 1 + x')]) := m5 _ _ e4 (by simpa using ne)
      have c5 : Mx [r] H H5 := (((m1.trans m2).trans m3).trans m4.of0).trans m5
      have hy : y = 0 ∨ y = 1 := by omega
      rcases hy with rfl | rfl
      · wtm_at "go"
        exact q _ _ (.inl (by omega)) c5 S5
      · wtm_at "go"
        exact q _ _ (.inr (by omega)) c5 S5
theorem g_tYesK {σ : L2.St} {H : Hp} {QB : Bool → Hp → Prop} (k : QB true H) : tYes σ H QB := k
/-- twenty cells, or others -/
def spCellsL : Sp := fun vs H Q _ => ∃ (H0 : Hp) (r : Addr), vs = [.ref r] ∧ StAt K H0 H r ∧ ∀ (l : Addr) (cs : List Int) H', H l = none → cs.length ≤ 21 → Mx [r] H H' → StAt K H0 H' r → H' l = some (.lst (cs.map V.int)) → Q (.ref l) H'
theorem c__law_cells (T : Tx K mg) : Cl P w K mg base 2 "_law_cells" (spCellsL (K := K)) [] := by
  refine T.f__law_cells.cl sc__law_cells (fun vs H Q E h => ?_) (fun cdv A outer s H vs Q E hr h => ?_)
  · obtain ⟨_, _, rfl, _⟩ := h
    rfl
  · obtain ⟨H0, r, rfl, S, q⟩ := h
    refine ⟨_, (pss_cons (ps_setLc (i := 1) (own := [("_law_k", 2)]) (g := gName 2) rfl sc__law_cells.nd rfl rfl (sw_true rfl rfl rfl (by decide +kernel)) (pi_range1 rfl T.n_range (pa_cons (pe_ix (ixL K) (pe_lst (pa_cons pe_int (pa_cons pe_int (pa_cons pe_int (pa_cons pe_int (pa_cons pe_int (pa_cons pe_int (pa_cons pe_int pa_nil)))))))) (q_call (c__law_drawn T) hr (by decide) rfl (passes_call (takes_of rfl rfl rfl rfl) (fun _ _ _ _ h => h)) (pa_cons (pv 0) (pa_cons pe_int pa_nil))) (fun _ _ => rfl)) pa_nil)) (blkOk_by (own := [("_law_k", 2)]) (N := N__law_cells) (sc := defScope s__law_cells) (by decide +kernel)) (fun _ _ _ _ _ => pg_name (i := 2) sc__law_cells.nd rfl (by first | exact Or.inl rfl | exact Or.inr rfl)) (fun _ _ _ _ _ => pts_nil) (fun _ _ _ _ _ => (q_call (c__law_drawn T) hr (by decide) rfl passL (pa_cons (pv 0) (pa_cons pe_int pa_nil)))))
      (pss_cons (ps_if (PW.pt (pw_and (pt_cmpR op_eq (pe_callB (cLen K) (by rfl) T.n_len (by decide +kernel) (pa_cons (pv 1) pa_nil)) pe_int (by first | exact nomark _ | rfl)) (pw_and1 (pt_cmpR op_eq (q_call (c__law_drawn T) hr (by decide) rfl (passes_call (takes_of rfl rfl rfl rfl) (fun _ _ _ _ h => h)) (pa_cons (pv 0) (pa_cons pe_int pa_nil))) pe_int (by first | exact nomark _ | rfl))))) (pss_cons (ps_asg pe_int (pg_sub (pv 1) (pe_op op_mulW (q_call (c__law_drawn T) hr (by decide) rfl (passes_call (takes_of rfl rfl rfl rfl) (fun _ _ _ _ h => h)) (pa_cons (pv 0) (pa_cons pe_int pa_nil))) pe_int) set_list))
      (pss_one (ps_asg (q_call (c__law_drawn T) hr (by decide) rfl (passes_call (takes_of rfl rfl rfl rfl) (fun _ _ _ _ h => h)) (pa_cons (pv 0) (pa_cons (pe_op op_pow pe_int pe_int) pa_nil))) (pg_sub (pv 1) (pe_op op_add pe_int (pe_op op_mulW pe_int (q_call (c__law_drawn T) hr (by decide) rfl (passes_call (takes_of rfl rfl rfl rfl) (fun _ _ _ _ h => h)) (pa_cons (pv 0) (pa_cons pe_int pa_nil))))) set_list)))) pss_nil)
      (pss_one (ps_ret (pv 1))))), ?_⟩
    wtm_at "go"
    rename_i l1 H1 n1 m1 e1
    have r1 := S.new n1
    refine ⟨H0, r, 7, rfl, S.mx0 m1, by omega, by omega, fun y H2 y0 y1 m2 S2 => ?_⟩
    have e2 : H2 l1 = some (.lst [.int 20, .int 20, .int 20, .int 19, .int 21, .int 10, .int 0]) := m2 _ _ e1 (by simpa using r1)
    have c2 : Mx [r] H H2 := m1.of0.trans m2
    obtain ⟨n, hat, hn⟩ : ∃ n : Int, atI [V.int 20, .int 20, .int 20, .int 19, .int 21, .int 10, .int 0] y = some (.int n) ∧ 0 ≤ n ∧ n ≤ 21 := by
      have hy : y = 0 ∨ y = 1 ∨ y = 2 ∨ y = 3 ∨ y = 4 ∨ y = 5 ∨ y = 6 := by omega
      rcases hy with rfl | rfl | rfl | rfl | rfl | rfl | rfl
      · exact ⟨20, rfl, by decide, by decide⟩
      · exact ⟨20, rfl, by decide, by decide⟩
      · exact ⟨20, rfl, by decide, by decide⟩
      · exact ⟨19, rfl, by decide, by decide⟩
      · exact ⟨21, rfl, by decide, by decide⟩
      · exact ⟨10, rfl, by decide, by decide⟩
      · exact ⟨0, rfl, by decide, by decide⟩
    clear m1 m2 e1 n1
    wtm_at "go"
    intro Dl hDl
    have rD := S2.new hDl
    have fD : H Dl = none := c2.free hDl (by simpa using rD)
    refine lc_range (fun i H' => Mx [r] H H' ∧ StAt K H0 H' r ∧ ∃ cs : List Int, cs.length = i ∧ H' Dl = some (.lst (cs.map V.int))) ⟨fun a o e z => by rw [upd_ne (ne_of_none e fD)]; exact c2 a o e z, S2.mx0 (.new hDl), [], rfl, upd_same⟩ (fun i H' hi hp => ?_) (fun H' hp => ?_)
    · obtain ⟨m, S', cs, lc, e⟩ := hp
      refine g_name ?_
      refine ⟨rfl, ?_⟩
      refine g_tYesK ?_
      rw [if_pos rfl]
      wtm_at "go"
      refine ⟨H0, r, 3, rfl, S', by omega, by omega, fun x H3 x0 x1 m3 S3 => ?_⟩
      have e3 : H3 Dl = some (.lst (cs.map V.int)) := m3 _ _ e (by simpa using rD)
      have mp : Mx [Dl] H3 (upd H3 Dl (.lst (cs.map V.int ++ [.int x]))) := .put (by simp)
      have f0 : H0 Dl = none := S.mx.free0 fD
      refine ⟨_, e3, lineL (by rw [List.length_map]; omega), fun a o e z => ?_, S3.mv mp (by simpa using f0) (by simpa using rD.symm), cs ++ [x], by rw [List.length_append, lc]; rfl, by rw [upd_same, List.map_append]; rfl⟩
      rw [upd_ne (ne_of_none e fD)]
      exact m3 _ _ (m _ _ e z) z
    · obtain ⟨m, S', cs, lc, e⟩ := hp
      have lc21 : cs.length ≤ 21 := by omega
      clear lc c2 S2 e2
      wtm_at "gi"
      refine g_cutS (fun N => ∀ (cs' : List Int) H3, cs'.length ≤ 21 → Mx [r] H H3 → StAt K H0 H3 r → H3 Dl = some (.lst (cs'.map V.int)) → N [some (.ref r), some (.ref Dl), none] H3) (fun N hN => ?_) (fun cs' H3 lc' m3 S3 e3 => ?_)
      · wtm_at "go"
        rw [List.length_map]
        refine g_ite (fun e20 => ?_) (fun e20 => ?_)
        · have e20 : cs.length = 20 := by
            simp at e20
            omega
          wtm_at "go"
          refine ⟨H0, r, 2, rfl, S', by omega, by omega, fun x H4 x0 x1 m4 S4 => ?_⟩
          have e4 : H4 Dl = some (.lst (cs.map V.int)) := m4 _ _ e (by simpa using rD)
          have c4 := m.trans m4
          clear m m4 e S'
          wtm_at "go"
          refine g_ite (fun ex => ?_) (fun ex => ?_)
          · wtm_at "go"
            refine ⟨H0, r, 2, rfl, S4, by omega, by omega, fun y H5 y0 y1 m5 S5 => ?_⟩
            have e5 : H5 Dl = some (.lst (cs.map V.int)) := m5 _ _ e4 (by simpa using rD)
            have c5 := c4.trans m5
            have f0 : H0 Dl = none := S.mx.free0 fD
            have wr : ∀ {H5 H6 : Hp}, Mx [r] H H5 → Mx [Dl] H5 H6 → Mx [r] H H6 := fun a b x o e z => b _ _ (a x o e z) (by simp; exact ne_of_none e fD)
            obtain ⟨j, hj, hj2⟩ : ∃ j : Nat, y * 10 = (j : Int) ∧ j < 20 := ⟨(y * 10).toNat, by omega, by omega⟩
            clear c4 m5 e4 S4
            wtm_at "go"
            rename_i H6 m6 e6
            have S6 := S5.mv m6 (by simpa using f0) (by simpa using rD.symm)
            have c6 := wr c5 m6
            refine ⟨H0, r, _, rfl, S6, by decide, by decide, fun z H7 z0 z1 m7 S7 => ?_⟩
            have e7 := m7 _ _ e6 (by simpa using rD)
            have c7 := c6.trans m7
            clear c5 c6 m6 m7 e5 e6 S5 S6
            wtm_at "go"
            refine ⟨H0, r, 2, rfl, S7, by omega, by omega, fun x2 H8 u0 u1 m8 S8 => ?_⟩
            have e8 := m8 _ _ e7 (by simpa using rD)
            have c8 := c7.trans m8
            obtain ⟨j2, hj3, hj4⟩ : ∃ j : Nat, 1 + 10 * x2 = (j : Int) ∧ j < 20 := ⟨(1 + 10 * x2).toNat, by omega, by omega⟩
            clear c7 m8 e7 S7
            wtm_at "go"
            rename_i H9 m9 e9
            exact hN _ H9 (by rw [List.length_set, List.length_set]; omega) (wr c8 m9) (S8.mv m9 (by simpa using f0) (by simpa using rD.symm)) e9
          · wtm_at "go"
            exact hN cs H4 lc21 c4 S4 e4
        · wtm_at "go"
          exact hN cs _ lc21 m S' e
      · wtm_at "go"
        exact q Dl cs' H3 fD lc' m3 S3 e3
/-- House(key, meters), refused -/
def spHBad (T : Tx K mg) : Sp := fun vs H _ E => ∃ (p dx a : Addr) (k : Int) (ms : List Int), vs = [.ref p, .int k, .ref a] ∧ H p = some (.ins T.C_House dx []) ∧ SqL K H a (ms.map V.int) ∧ ms.length ≤ 100 ∧
  (¬ (0 ≤ k ∧ k ≤ 999981) ∨ ¬ (1 ≤ ms.length ∧ ms.length ≤ 4) ∨ numSet ms ≠ ms.length ∨ ∃ m ∈ ms, ¬ (1 ≤ m ∧ m ≤ 9999)) ∧ E (.ref T.E_BadNumber) none H
def kLenSetG (K : PySem.W.Frag) (Q : VK) : VK := fun x H1 => ∃ (l : Addr) (ns : List Int), x = .ref l ∧ SqL K H1 l (ns.map V.int) ∧ ns.length ≤ 4000 ∧ Q (.int (numSet ns : Nat)) H1
theorem g_lenSetG {σ : L2.St} {H : Hp} {Q : VK} {ta : TE} (k : ta σ H (kLenSetG K Q)) : tLenSetG K ta σ H Q := k
theorem mt_House___init__ (T : Tx K mg) : Me P w K mg base 2 T.C_House "__init__" (spHBad T) [] := by
  refine T.m_House___init__.me T.cls_House sc_House___init__ (fun vs H Q E h => ?_) (fun cdv A outer s H vs Q E hr h => ?_)
  · obtain ⟨_, _, _, _, _, rfl, _⟩ := h
    rfl
  · obtain ⟨p, dx, a, k, ms, rfl, hp, hS, hl, bad, fin⟩ := h
    have hu := hu_of hr
    refine ⟨_, (pss_cons (ps_expr (q_call (c_need_key T) hr (by decide) rfl (passes_call (takes_of rfl rfl rfl rfl) (fun _ _ _ _ h => h)) (pa_cons (pv 1) pa_nil)))
      (pss_cons (ps_if (PW.pt (pw_or (pt_not (pt_chain op_le op_le pe_int (pe_callB (cLen K) (by rfl) T.n_len (by decide +kernel) (pa_cons (pv 2) pa_nil)) (q_const T.g_MOST_METERS rfl))) (pw_or1 (pt_cmpR op_ne (lenSetG K rfl T.n_len rfl T.n_set (pv 2)) (pe_callB (cLen K) (by rfl) T.n_len (by decide +kernel) (pa_cons (pv 2) pa_nil)) (by first | exact nomark _ | rfl))))) (pss_one (q_raise rfl (takes_of rfl rfl rfl rfl) T.x_BadNumber rfl)) pss_nil)
      (pss_cons (ps_for (passes_of rfl) rfl (piL K (pv 2)) (pg_name (i := 3) sc_House___init__.nd rfl (Or.inl rfl))
      (pss_one (ps_expr (q_call (c_need_number T) hr (by decide) rfl (passes_call (takes_of rfl rfl rfl rfl) (fun _ _ _ _ h => h)) (pa_cons (pv 3) pa_nil)))))
      (pss_cons (psFld K (pv 0) (pv 1) rfl)
      (pss_cons (psFld K (pv 0) pe_int rfl)
      (pss_cons (psFld K (pv 0) pe_int rfl)
      (pss_cons (psFld K (pv 0) (pe_callTy (cDictP K rfl) (by rfl) T.n_dict (by decide +kernel) (pa_cons (pe_lc (own := [("meter", 3)]) (g := gName 3) rfl sc_House___init__.nd (piL K (pv 2)) (blkOk_by (own := [("meter", 3)]) (N := N_House___init__) (sc := defScope s_House___init__) (by decide +kernel)) (fun _ _ _ _ _ => pg_name (i := 3) sc_House___init__.nd rfl (by first | exact Or.inl rfl | exact Or.inr rfl)) (fun _ _ _ _ _ => pts_nil) (fun _ _ _ _ _ => (pe_tup (pa_cons (pv 3) (pa_cons (pe_lst pa_nil) pa_nil))))) pa_nil)) rfl)
      (pss_one (psFld K (pv 0) (pe_callTy (cDictP K rfl) (by rfl) T.n_dict (by decide +kernel) (pa_cons (pe_lc (own := [("meter", 3)]) (g := gName 3) rfl sc_House___init__.nd (piL K (pv 2)) (blkOk_by (own := [("meter", 3)]) (N := N_House___init__) (sc := defScope s_House___init__) (by decide +kernel)) (fun _ _ _ _ _ => pg_name (i := 3) sc_House___init__.nd rfl (by first | exact Or.inl rfl | exact Or.inr rfl)) (fun _ _ _ _ _ => pts_nil) (fun _ _ _ _ _ => (pe_tup (pa_cons (pv 3) (pa_cons (pe_lst pa_nil) pa_nil))))) pa_nil)) rfl))))))))), ?_⟩
    wtm_at "go"
    refine ⟨k, rfl, fun hk => ?_, fun _ => fin⟩
    wtm_at "gi"
    refine g_cutS (fun N => (1 ≤ ms.length ∧ ms.length ≤ 4 ∧ numSet ms = ms.length → N [some (.ref p), some (.int k), some (.ref a), none] H)) (fun N hN => ?_) (fun good => ?_)
    · wtm_at "go"
      rw [List.length_map]
      refine g_ite (fun e1 => ?_) (fun e1 => ?_)
      · wtm_at "go"
        refine g_ite (fun e2 => ?_) (fun e2 => ?_)
        · wtm_at "go"
          exact fin
        · wtm_at "go"
          refine g_lenSetG ?_
          wtm_at "go"
          refine ⟨a, ms, rfl, hS, by omega, ?_⟩
          wtm_at "go"
          rw [List.length_map]
          refine g_ite (fun e3 => ?_) (fun e3 => ?_)
          · wtm_at "go"
            exact fin
          · wtm_at "go"
            simp at e1 e2 e3
            exact hN ⟨by omega, by omega, by omega⟩
      · wtm_at "go"
        refine g_yes rfl ?_
        wtm_at "go"
        exact fin
    · have bad2 : ∃ m ∈ ms, ¬ (1 ≤ m ∧ m ≤ 9999) := by
        rcases bad with z | z | z | z
        · exact absurd hk z
        · exact absurd ⟨good.1, good.2.1⟩ z
        · exact absurd good.2.2 z
        · exact z
      wtm_at "go"
      refine g_forL (xs := ms.map V.int) (fun i σ' H' => ∃ x, σ' = [some (.ref p), some (.int k), some (.ref a), x] ∧ H = H' ∧ ∀ j, j < i → ∀ m, ms[j]? = some m → 1 ≤ m ∧ m ≤ 9999)
        ⟨none, rfl, rfl, fun j hj => absurd hj (by omega)⟩ (fun i σ' H' _ hP => ?_) (fun i x σ' H' hx hP => ?_) (fun σ' H' hP => ?_)
      · obtain ⟨_, _, rfl, _⟩ := hP
        exact hS
      · obtain ⟨x0, rfl, rfl, ok⟩ := hP
        rw [List.getElem?_map, Option.map_eq_some_iff] at hx
        obtain ⟨m, hmm, rfl⟩ := hx
        wtm_at "go"
        refine ⟨m, rfl, fun hm => ?_, fun _ => fin⟩
        wtm_at "go"
        refine ⟨_, rfl, rfl, fun j hj m' hm' => ?_⟩
        by_cases e : j = i
        · subst e
          rw [hmm] at hm'
          cases hm'
          exact hm
        · exact ok j (by omega) m' hm'
      · obtain ⟨x0, rfl, rfl, ok⟩ := hP
        obtain ⟨m, hm, nb⟩ := bad2
        obtain ⟨j, hj⟩ := List.mem_iff_getElem?.mp hm
        exact absurd (ok j (by rw [List.length_map]; exact (List.getElem?_eq_some_iff.mp hj).1) m hj) nb
theorem mk_House (T : Tx K mg) : Ma P w K mg base 2 "House" T.C_House (spHBad T) [] := by
  obtain ⟨f, fd, ps, ds, _, m, F, b, d⟩ := (mt_House___init__ (P := P) (w := w) (base := base) T).ex
  exact ⟨f, fd, ps, ds, ⟨T.mk_House_, m.at_, m.fn, T.kc_House⟩, F, T.g_House, b, d⟩
end
end Fk
namespace Fk
open PySem PySem.Spec PyProof.Rows L2
local macro_rules | `(tactic| wtm_at "ln") => `(tactic| first
  | omega
  | (simp only [List.length_cons, List.length_nil, List.length_map, List.length_append, List.length_replicate, List.length_take, List.length_drop, List.length_set]; omega)
  | (with_unfolding_all exact (by decide)))
local macro_rules | `(tactic| wtm_at "ar") => `(tactic| first
  | ((with_reducible show CMulW _ _); (refine' mulS ?_ ?_ <;> omega))
  | ((with_reducible show CDivW _ _); (refine' divS ?_ ?_ <;> omega))
  | ((with_reducible show CPow _ _); exact ⟨by decide, by decide, by decide⟩)
  | (show (0 : Int) < _; omega)
  | (with_unfolding_all exact (by decide)))
local macro_rules | `(tactic| wtm_at "at") => `(tactic| first
  | assumption
  | (refine' cl_atE ?e80 ?h80; (case' e80 => first | exact rfl | assumption); (case' h80 => wtm_at "ln"))
  | exact rfl)
local macro_rules | `(tactic| wtm_at "fr") => `(tactic| first
  | assumption
  | ((with_reducible refine' Mx.free0 ?m99 ?h99); (case' h99 => assumption); (case' m99 => wtm_at "mo")))
local macro_rules | `(tactic| wtm_at "hp") => `(tactic| first
  | assumption
  | ((with_reducible refine' Mx.get0 ?m1 ?h1); (case' m1 => assumption); (case' h1 => wtm_at "hp"))
  | ((with_reducible refine' Mx.get ?m2 ?n2 ?h2); (case' m2 => assumption); (case' n2 => wtm_at "nin"); (case' h2 => wtm_at "hp")))
local macro_rules | `(tactic| wtm_at "sl") => `(tactic| first
  | assumption
  | ((with_reducible refine' Mx.sqL0 ?m96 ?h96); (case' h96 => assumption); (case' m96 => wtm_at "mo"))
  | (refine' SqL.of ?h3; (case' h3 => wtm_at "hp"))
  | ((with_reducible refine' Mx.sqL0 ?m4 ?h4); (case' m4 => assumption); (case' h4 => wtm_at "sl"))
  | ((with_reducible refine' Mx.sqL ?m5 ?n5 ?h5); (case' m5 => assumption); (case' n5 => wtm_at "nin"); (case' h5 => wtm_at "sl")))
local macro_rules | `(tactic| wtm_at "st") => `(tactic| first
  | assumption
  | ((with_reducible refine' Mx.sqT0 ?m97 ?h97); (case' h97 => assumption); (case' m97 => wtm_at "mo"))
  | (refine' SqT.of ?h6; (case' h6 => wtm_at "hp"))
  | ((with_reducible refine' Mx.sqT0 ?m7 ?h7); (case' m7 => assumption); (case' h7 => wtm_at "st"))
  | ((with_reducible refine' Mx.sqT ?m8 ?n8 ?h8); (case' m8 => assumption); (case' n8 => wtm_at "nin"); (case' h8 => wtm_at "st")))
local macro_rules | `(tactic| wtm_at "mx") => `(tactic| first
  | assumption
  | exact Mx.refl
  | ((with_reducible refine' Mx.of0 ?h9); (case' h9 => assumption))
  | ((with_reducible refine' Mx.trans ?h10 ?m10); (case' m10 => first | assumption | ((with_reducible refine' Mx.of0 ?q10); (case' q10 => assumption))); (case' h10 => wtm_at "mx")))
local macro_rules | `(tactic| wtm_at "mo") => `(tactic| first
  | wtm_at "mx"
  | ((with_reducible refine' Mx.own ?m90 ?f90 ?k90); (case' k90 => assumption); (case' f90 => wtm_at "fr"); (case' m90 => wtm_at "mo"))
  | ((with_reducible refine' Mx.trans ?h91 ?m91); (case' m91 => first | assumption | ((with_reducible refine' Mx.of0 ?q91); (case' q91 => assumption))); (case' h91 => wtm_at "mo")))
local macro_rules | `(tactic| wtm_at "ne") => `(tactic| first
  | assumption
  | exact Ne.symm (by assumption)
  | ((with_reducible refine' ne_of_none ?x94 ?y94); (case' y94 => assumption); (case' x94 => wtm_at "hp"))
  | ((with_reducible refine' Ne.symm (ne_of_none ?x95 ?y95)); (case' y95 => assumption); (case' x95 => wtm_at "hp")))
local macro_rules | `(tactic| wtm_at "nin") => `(tactic| first
  | assumption
  | exact List.not_mem_nil
  | ((with_reducible refine' List.not_mem_cons_of_ne_of_not_mem ?h98 ?t98); (case' h98 => wtm_at "ne"); (case' t98 => wtm_at "nin")))
local macro_rules | `(tactic| wtm_at "g1") => `(tactic| first
  | ((with_reducible refine' g_var ?h11 ?k11); (case' h11 => exact rfl))
  | with_reducible refine' g_c ?_
  | with_reducible refine' g_op ?_
  | with_reducible refine' g_I0 ?_
  | ((with_reducible refine' g_I ?c12 ?k12); (case' c12 => wtm_at "ar"))
  | with_reducible refine' g_cons ?_
  | with_reducible refine' g_nil ?_
  | with_reducible refine' g_seq ?_
  | with_reducible refine' g_asg ?_
  | with_reducible refine' g_name ?_
  | with_reducible refine' g_ret ?_
  | with_reducible refine' g_if ?_
  | with_reducible refine' g_test ?_
  | with_reducible refine' g_tB ?_
  | with_reducible refine' g_bl ?_
  | ((with_reducible refine' g_eq ?h13 ?k13); (case' h13 => exact rfl))
  | ((with_reducible refine' g_ne ?h14 ?k14); (case' h14 => exact rfl))
  | with_reducible refine' g_CB ?_
  | with_reducible refine' g_call ?_
  | with_reducible refine' g_drop ?_
  | with_reducible refine' g_next ?_
  | with_reducible refine' g_not ?_
  | with_reducible refine' g_and ?_
  | with_reducible refine' g_or ?_
  | with_reducible refine' g_un ?_
  | with_reducible refine' g_U ?_
  | with_reducible refine' g_tup ?_
  | with_reducible refine' g_lst ?_
  | ((with_reducible refine' g_kNew ?h15 ?k15); (case' h15 => wtm_at "ln"); (case' k15 => intro _ _ _ _ _))
  | ((with_reducible refine' g_ixL ?h16 ?a16 ?k16); (case' h16 => wtm_at "sl"); (case' a16 => wtm_at "at"))
  | ((with_reducible refine' g_ixT ?h17 ?a17 ?k17); (case' h17 => wtm_at "st"); (case' a17 => wtm_at "at"))
  | with_reducible refine' g_slice ?_
  | with_reducible refine' g_part ?_
  | with_reducible refine' g_kPart ?_
  | with_reducible refine' g_noPart ?_
  | ((with_reducible refine' g_slL ?h18 ?k18); (case' h18 => wtm_at "sl"); (case' k18 => intro _ _ _ _ _))
  | ((with_reducible refine' g_cat ?h119 ?h219 ?l19 ?k19); (case' h119 => wtm_at "hp"); (case' h219 => wtm_at "hp"); (case' l19 => wtm_at "ln"); (case' k19 => intro _ _ _ _ _))
  | ((with_reducible refine' g_rep ?h120 ?h220 ?h320 ?l20 ?k20); (case' h120 => wtm_at "hp"); (case' h220 => wtm_at "ln"); (case' h320 => wtm_at "ln"); (case' l20 => wtm_at "ln"); (case' k20 => intro _ _ _ _ _))
  | ((with_reducible refine' g_append ?h21 ?l21 ?k21); (case' h21 => wtm_at "hp"); (case' l21 => wtm_at "ln"); (case' k21 => intro _ _ _))
  | ((with_reducible refine' g_kBM ?h22 ?k22); (case' h22 => wtm_at "sl"))
  | ((with_reducible refine' g_kBM0 ?h23 ?k23); (case' h23 => wtm_at "sl"))
  | ((with_reducible refine' g_kL ?h24 ?k24); (case' h24 => wtm_at "sl"))
  | ((with_reducible refine' g_kR1 ?h125 ?h225 ?k25); (case' h125 => wtm_at "ln"); (case' h225 => wtm_at "ln"))
  | ((with_reducible refine' g_kR2 ?h126 ?h226 ?h326 ?h426 ?k26); (case' h126 => wtm_at "ln"); (case' h226 => wtm_at "ln"); (case' h326 => wtm_at "ln"); (case' h426 => wtm_at "ln"))
  | ((with_reducible refine' g_lenL ?h27 ?k27); (case' h27 => wtm_at "sl"))
  | ((with_reducible refine' g_lenT ?h28 ?k28); (case' h28 => wtm_at "st"))
  | ((with_reducible refine' g_listL ?h29 ?k29); (case' h29 => wtm_at "sl"); (case' k29 => intro _ _ _ _ _))
  | ((with_reducible refine' g_tupleL ?h30 ?k30); (case' h30 => wtm_at "sl"); (case' k30 => intro _ _ _ _ _))
  | with_reducible refine' g_max ?_
  | with_reducible refine' g_min ?_
  | with_reducible refine' g_intB ?_
  | with_reducible refine' g_fld ?_
  | with_reducible refine' g_put ?_
  | with_reducible refine' g_dget ?_
  | with_reducible refine' g_isN ?_
  | with_reducible refine' g_notN ?_
  | with_reducible refine' g_ifE ?_
  | with_reducible refine' g_andV ?_
  | with_reducible refine' g_orV ?_
  | with_reducible refine' g_notV ?_
  | with_reducible refine' g_kIf ?_
  | with_reducible refine' g_chain ?_
  | with_reducible refine' g_kCh ?_
  | with_reducible refine' g_sub ?_
  | ((with_reducible refine' g_setI ?h92 ?e92 ?j92 ?k92); (case' h92 => wtm_at "hp"); (case' e92 => first | exact rfl | assumption); (case' j92 => wtm_at "ln"); (case' k92 => intro _ _ _))
  | ((with_reducible refine' g_setL ?h89 ?i89 ?k89); (case' h89 => wtm_at "hp"); (case' i89 => exact ixE rfl (by wtm_at "ln")); (case' k89 => intro _ _ _))
  | ((with_reducible refine' g_gtup ?h93 ?e93 ?k93); (case' h93 => wtm_at "st"); (case' e93 => exact rfl))
  | with_reducible refine' g_gcons ?_
  | with_reducible refine' g_gnil ?_
  | with_reducible refine' g_par ?_
  | with_reducible refine' g_kPar ?_
  | with_reducible refine' g_meth ?_
  | with_reducible refine' g_bm ?_
  | with_reducible refine' g_bm0 ?_
  | with_reducible refine' g_raise ?_
  | with_reducible refine' g_for ?_
  | with_reducible refine' g_iR1 ?_
  | with_reducible refine' g_iR2 ?_
  | with_reducible refine' g_iL ?_
  | with_reducible refine' g_lc ?_
  | with_reducible refine' g_retN ?_
  | with_reducible refine' g_no (b := false) rfl ?_
  | with_reducible refine' g_yes (b := true) rfl ?_)
local macro_rules | `(tactic| wtm_at "go") => `(tactic| repeat (wtm_at "g1"))
local macro_rules | `(tactic| wtm_at "gs") => `(tactic| repeat ((fail_if_success (with_reducible refine' g_ifE ?_)); wtm_at "g1"))
local macro_rules | `(tactic| wtm_at "gi") => `(tactic| repeat ((fail_if_success (with_reducible refine' g_if ?_)); wtm_at "g1"))
local macro_rules | `(tactic| wtm_at "gr") => `(tactic| repeat ((fail_if_success (with_reducible refine' g_ret ?_)); wtm_at "g1"))
local macro_rules | `(tactic| wtm_at "gq") => `(tactic| repeat ((fail_if_success (with_reducible refine' g_asg ?_)); wtm_at "g1"))

/-- the lambdas' name -/
def lamQ : Str := (envOfC "law" (defScope s_law) 0 0 .none).qual ++ "<lambda>"
section
variable {P : Program} {w : World} {K : PySem.W.Frag} {mg : Str → Option Value} {base : Heap}
local macro_rules | `(tactic| wtm_at "g1") => `(tactic| first
  | ((with_reducible refine' g_fOwn (by assumption) ?h201 ?k201); (case' h201 => wtm_at "hp"))
  | ((with_reducible refine' g_fKey (by assumption) ?h202 ?k202); (case' h202 => wtm_at "hp"))
  | ((with_reducible refine' g_fMem (by assumption) ?h203 ?k203); (case' h203 => wtm_at "hp"))
  | ((with_reducible refine' g_fPri (by assumption) ?h204 ?k204); (case' h204 => wtm_at "hp"))
  | ((with_reducible refine' g_fAwa (by assumption) ?h205 ?k205); (case' h205 => wtm_at "hp"))
  | ((with_reducible refine' g_pAwa (by assumption) ?h206 ?k206); (case' h206 => wtm_at "hp"); (case' k206 => intro _ _ _))
  | ((with_reducible refine' g_kMeth ?h207 ?l207 ?k207); (case' h207 => wtm_at "hp"); (case' l207 => exact rfl)))

local macro_rules | `(tactic| wtm_at "g1") => `(tactic| first
  | ((with_reducible refine' g_dNum ?h311 ?k311); (case' h311 => wtm_at "hp"))
  | ((with_reducible refine' g_dKey ?h312 ?k312); (case' h312 => wtm_at "hp"))
  | ((with_reducible refine' g_dCe ?h313 ?k313); (case' h313 => wtm_at "hp"))
  | ((with_reducible refine' g_dSt ?h314 ?k314); (case' h314 => wtm_at "hp"))
  | ((with_reducible refine' g_dUp ?h315 ?k315); (case' h315 => wtm_at "hp"))
  | ((with_reducible refine' g_kDGetS ?h301 ?l301 ?k301); (case' h301 => wtm_at "hp"); (case' l301 => exact rfl))
  | (with_reducible refine' g_dput ?_)
  | (with_reducible refine' g_iK ?_)
  | ((with_reducible refine' g_disp ?k305); (case' k305 => intro _ _ _ _ _))
  | (with_reducible refine' g_pcons ?_)
  | (with_reducible refine' g_pnil ?_)
  | ((with_reducible refine' g_kDisp ?h306 ?e306 ?f306 ?l306 ?k306); (case' h306 => wtm_at "hp"); (case' e306 => exact rfl); (case' f306 => exact rfl); (case' l306 => wtm_at "ln"); (case' k306 => intro _ _ _))
  | ((with_reducible refine' g_pUp ?h302 ?k302); (case' h302 => wtm_at "hp"); (case' k302 => intro _ _ _))
  | ((with_reducible refine' g_pSt ?h303 ?k303); (case' h303 => wtm_at "hp"); (case' k303 => intro _ _ _))
  | ((with_reducible refine' g_pCe ?h304 ?k304); (case' h304 => wtm_at "hp"); (case' k304 => intro _ _ _)))

theorem g_kindK (T : Tx K mg) {tl : XK → Hp → VK → Prop} {H : Hp} {Q : VK} (k : tl (fun cls d H' => ∃ r : Rf, cls = .ref (r.at T) ∧ d = none ∧ ∀ H'', Mx [] H' H'' → Q (.str r.word) H'') H Q) : TKind T tl H Q := k
/-- whatever the heap, BadNumber is told -/
def Bn (T : Tx K mg) (n k o b : Int) (t : XK → TE) : Prop := ∀ (σ : L2.St) (H : Hp) (Q : VK), σ[6]? = some (some (.int n)) → σ[7]? = some (some (.int k)) → σ[8]? = some (some (.int o)) → σ[9]? = some (some (.int b)) →
  (∀ H', Mx [] H H' → Q (.str (Rf.word .number)) H') → TKind T (fun E H' Q' => t E σ H' Q') H Q
section
variable {n k o b : Int}
theorem bn_meter (T : Tx K mg) {i j : Nat} {x y : Int} (hx : ∀ σ : L2.St, σ[6]? = some (some (.int n)) → σ[7]? = some (some (.int k)) → σ[8]? = some (some (.int o)) → σ[9]? = some (some (.int b)) → σ[i]? = some (some (.int x)) ∧ σ[j]? = some (some (.int y)))
    (bad : ¬ ((1 ≤ x ∧ x ≤ 9999) ∧ (0 ≤ y ∧ y ≤ 999981))) : Bn T n k o b (fun E => tMake T.C_Meter (spInit T) [] E (tCons (tVar i) (tCons (tVar j) tNil))) := fun σ H Q h6 h7 h8 h9 fin => by
  obtain ⟨e1, e2⟩ := hx σ h6 h7 h8 h9
  refine g_kindK T ?_
  refine g_make (g_cons (g_var e1 (g_cons (g_var e2 (g_nil ?_)))))
  refine g_kMake fun p dx H1 n1 m1 q1 => ?_
  exact ⟨p, dx, x, y, rfl, q1, fun z => absurd z bad, fun _ => ⟨.number, rfl, rfl, fun H2 m2 => fin _ (m1.trans m2)⟩⟩
theorem bn_house (T : Tx K mg) {ta : TA} {j : Nat} {y : Int} {ms : List Int} (hx : ∀ σ : L2.St, σ[6]? = some (some (.int n)) → σ[7]? = some (some (.int k)) → σ[8]? = some (some (.int o)) → σ[9]? = some (some (.int b)) → σ[j]? = some (some (.int y)) ∧ ∀ H (QA : List V → Hp → Prop), QA (ms.map V.int) H → ta σ H QA)
    (hl : ms.length ≤ 100) (bad : ¬ (0 ≤ y ∧ y ≤ 999981) ∨ ¬ (1 ≤ ms.length ∧ ms.length ≤ 4) ∨ numSet ms ≠ ms.length ∨ ∃ m ∈ ms, ¬ (1 ≤ m ∧ m ≤ 9999)) : Bn T n k o b (fun E => tMake T.C_House (spHBad T) [] E (tCons (tVar j) (tCons (tLst ta) tNil))) := fun σ H Q h6 h7 h8 h9 fin => by
  obtain ⟨e1, e2⟩ := hx σ h6 h7 h8 h9
  refine g_kindK T ?_
  refine g_make (g_cons (g_var e1 (g_cons (g_lst (e2 _ _ (g_kNew (by rw [List.length_map]; omega) fun l H1 n1 m1 q1 => g_nil ?_))))))
  refine g_kMake fun p dx H2 n2 m2 q2 => ?_
  exact ⟨p, dx, l, y, ms, rfl, q2, SqL.of (m2.get0 q1), hl, bad, ⟨.number, rfl, rfl, fun H3 m3 => fin _ ((m1.trans m2).trans m3)⟩⟩
theorem bn_rec (T : Tx K mg) {i j : Nat} {x y : Int} (hx : ∀ σ : L2.St, σ[6]? = some (some (.int n)) → σ[7]? = some (some (.int k)) → σ[8]? = some (some (.int o)) → σ[9]? = some (some (.int b)) → σ[i]? = some (some (.int x)) ∧ σ[j]? = some (some (.int y)))
    (bad : ¬ ((1 ≤ x ∧ x ≤ 9999) ∧ (0 ≤ y ∧ y ≤ 999981))) : Bn T n k o b (fun E => tCall (spRecovered T) [] E (tCons (tVar i) (tCons (tVar j) (tCons (tOp rCat (tLst (tCons (tC (.int 1)) tNil)) (tOp rRep (tLst (tCons (tC (.int 0)) tNil)) (tC (.int 19)))) (tCons (tLst tNil) tNil))))) := fun σ H Q h6 h7 h8 h9 fin => by
  obtain ⟨e1, e2⟩ := hx σ h6 h7 h8 h9
  refine g_kindK T ?_
  refine g_call (g_cons (g_var e1 (g_cons (g_var e2 (g_cons ?_)))))
  wtm_at "go"
  rename_i l1 H1 n1 m1 q1 l2 H2 n2 m2 q2 l3 H3 n3 m3 q3 l4 H4 n4 m4 q4 l5 H5 n5 m5 q5
  have c5 : Mx [] H H5 := (((m1.trans m2).trans m3).trans m4).trans m5
  have q4' : H5 l4 = some (.lst (((1 : Int) :: List.replicate 19 0).map V.int)) := m5.get0 q4
  exact ⟨x, y, l4, l5, _, [], [], rfl, SqL.of q4', by simp, SqL.of q5, .nil, fun z => absurd z bad, fun _ H6 m6 => ⟨.number, rfl, rfl, fun H7 m7 => fin _ ((c5.trans m6).trans m7)⟩, fun z => absurd z bad⟩
end
/-- the works so far: a list of lambdas -/
structure Wx (T : Tx K mg) (X : Cx) (q : Str) (n k o b : Int) (H0 : Hp) (r lc lh : Addr) (cs : List Int) (lw : Addr) (H : Hp) (xs : List V) : Prop where
  st : StAt K H0 H r
  tb : LamX.Tabs [(T.f_law.P, lamQ)] H
  ec : H lc = some (.lst (cs.map V.int))
  eh : H lh = some (.lst (cs.map V.int))
  nt : NoTbl H0
  e : H lw = some (.lst xs)
  c : ∀ x ∈ xs, ∃ f t, x = .ref f ∧ Cal X KL q t H f ∧ Bn T n k o b t
  n1 : lw ≠ r ∧ H0 lw = none ∧ lc ≠ lw ∧ lh ≠ lw
section
variable {T : Tx K mg} {X : Cx} {q : Str} {n k o b : Int} {H0 : Hp} {r lc lh : Addr} {cs : List Int} {lw : Addr} {H H' : Hp} {xs : List V}
theorem Wx.extn (w : Wx T X q n k o b H0 r lc lh cs lw H xs) (e : LamX.ExtN H H') (t : LamX.Tabs [(T.f_law.P, lamQ)] H') : Wx T X q n k o b H0 r lc lh cs lw H' xs :=
  ⟨w.st.extn w.nt e, t, e _ _ w.ec (fun _ z => nomatch z), e _ _ w.eh (fun _ z => nomatch z), w.nt, e _ _ w.e (fun _ z => nomatch z), fun x hx => by obtain ⟨f, t, ex, c, bn⟩ := w.c x hx; exact ⟨f, t, ex, c.extn e, bn⟩, w.n1⟩
theorem Wx.mx0 (w : Wx T X q n k o b H0 r lc lh cs lw H xs) (m : Mx [] H H') : Wx T X q n k o b H0 r lc lh cs lw H' xs :=
  ⟨w.st.mx0 m, Tabs.mx0 w.tb m, m.get0 w.ec, m.get0 w.eh, w.nt, m.get0 w.e, fun x hx => by obtain ⟨f, t, ex, c, bn⟩ := w.c x hx; exact ⟨f, t, ex, c.mx m (fun y hy => by simp at hy), bn⟩, w.n1⟩
theorem Wx.push {f : Addr} {t : XK → TE} (w : Wx T X q n k o b H0 r lc lh cs lw H xs) (m : Mx [lw] H H') (e : H' lw = some (.lst (xs ++ [.ref f]))) (cal : Cal X KL q t H f) (bn : Bn T n k o b t) : Wx T X q n k o b H0 r lc lh cs lw H' (xs ++ [.ref f]) := by
  have nx : ∀ x ∈ [lw], ∀ φ, H x ≠ some (.ext φ) := fun x hx φ z => by rw [List.mem_singleton.mp hx, w.e] at z; cases z
  refine ⟨w.st.mv m (fun x hx => by rw [List.mem_singleton.mp hx]; exact w.n1.2.1) (by simpa using w.n1.1.symm), Tabs.mx w.tb m (fun x hx => by rw [List.mem_singleton.mp hx]; exact noX_lst w.e), m _ _ w.ec (by simpa using w.n1.2.2.1), m _ _ w.eh (by simpa using w.n1.2.2.2), w.nt, e, fun x hx => ?_, w.n1⟩
  rcases List.mem_append.mp hx with z | z
  · obtain ⟨f, t, ex, c, bn⟩ := w.c x z
    exact ⟨f, t, ex, c.mx m nx, bn⟩
  · exact ⟨f, t, List.mem_singleton.mp z, cal.mx m nx, bn⟩
end
theorem g_in1 {H : Hp} {Q : VK} {l : Addr} {x y : Int} (h : H l = some (.lst [.int x, .int y])) (k : Q (.bl (decide (x = 1 ∨ y = 1))) H) : rIn K false (.int 1) (.ref l) H Q := by
  refine ⟨l, _, rfl, .inl (SqL.of h), rfl, rfl, ?_⟩
  have e : inV (.int 1) [.int x, .int y] = decide (x = 1 ∨ y = 1) := by
    by_cases h1 : x = 1 <;> by_cases h2 : y = 1 <;> simp [inV, eqV, h1, h2]
  show Q (.bl (inV (.int 1) [.int x, .int y])) H
  rw [e]
  exact k
theorem num3 (n : Int) : numSet [7, n, 8, 7] ≠ 4 := by
  show (PyProof.Rows.firstMet (fun i => ([7, n, 8, 7] : List Int).getD i 0) (3 + 1)).length ≠ 4
  have le := PyProof.Rows.firstMet_length_le (fun i => ([7, n, 8, 7] : List Int).getD i 0) 3
  have m : (PyProof.Rows.firstMet (fun i => ([7, n, 8, 7] : List Int).getD i 0) 3).any (· == 7) = true := by
    rw [PyProof.Rows.firstMet_any]
    rfl
  rw [PyProof.Rows.firstMet_succ]
  show (PyProof.Rows.step_dedup _ (7 : Int)).length ≠ 4
  unfold PyProof.Rows.step_dedup
  rw [if_pos m]
  omega
def spLaw (T : Tx K mg) : Sp := fun vs H Q _ => ∃ (a : Addr) (ns : List Int), vs = [.ref a] ∧ SqL K H a (ns.map V.int) ∧ ns.length ≤ 63 ∧ H T.f_law.P = some (.tbl #[]) ∧ ∀ H', Q (.bl true) H'
theorem ok_law (T : Tx K mg) (TB : LamX.TabB base mg T.f_law.c T.f_law.P) : FnOk P w K mg base (L2.CX P w) 9 T.f_law.a T.f_law.d ["_law_script"] (spLaw T) := by
  refine T.f_law.ok sc_law (fun vs H Q E h => ?_) (fun A outer s H vs Q E hr h => ?_)
  · obtain ⟨_, _, rfl, _⟩ := h
    rfl
  · obtain ⟨a, ns, rfl, hS, hl, hT, fin⟩ := h
    refine ⟨_, (pss_cons (ps_set (i := 1) sc_law.nd rfl (Or.inl rfl) (q_call (c__law_start T) hr (by decide) rfl (passes_call (takes_of rfl rfl rfl rfl) (fun _ _ _ _ h => h)) (pa_cons (pv 0) pa_nil)))
      (pss_cons (ps_for (passes_of rfl) rfl (pi_range1 rfl T.n_range (pa_cons pe_int pa_nil)) (pg_name (i := 2) sc_law.nd rfl (Or.inl rfl))
      (pss_cons (ps_set (i := 3) sc_law.nd rfl (Or.inl rfl) (q_call (c__law_cells T) hr (by decide) rfl (passes_call (takes_of rfl rfl rfl rfl) (fun _ _ _ _ h => h)) (pa_cons (pv 1) pa_nil)))
      (pss_cons (ps_set (i := 4) sc_law.nd rfl (Or.inl rfl) pe_str)
      (pss_cons (ps_if (PW.pt (pw_and (pt_cmpR op_eq (pe_callB (cLen K) (by rfl) T.n_len (by decide +kernel) (pa_cons (pv 3) pa_nil)) pe_int (by first | exact nomark _ | rfl)) (pw_and1 (pt_cmpR (opIn K) pe_int (pe_lst (pa_cons (pe_ix (ixL K) (pv 3) pe_int (fun _ _ => rfl)) (pa_cons (pe_ix (ixL K) (pv 3) pe_int (fun _ _ => rfl)) pa_nil))) (by first | exact nomark _ | rfl))))) (pss_one (ps_set (i := 4) sc_law.nd rfl (Or.inl rfl) (pe_callTy c_int (by rfl) T.n_int (by decide +kernel) (pa_cons (pe_or (pe_cmpR op_ne (pe_ix (ixL K) (pv 3) pe_int (fun _ _ => rfl)) pe_int (by first | exact nomark _ | rfl)) (pe_one (pe_and (pe_cmpR op_eq (pe_ix (ixL K) (pv 3) pe_int (fun _ _ => rfl)) pe_int (by first | exact nomark _ | rfl)) (pe_one (pe_cmpR op_gt (pe_ix (ixL K) (pv 3) pe_int (fun _ _ => rfl)) (pe_ix (ixL K) (pv 3) pe_int (fun _ _ => rfl)) (by first | exact nomark _ | rfl)))))) pa_nil)))) pss_nil)
      (pss_cons (ps_set (i := 5) sc_law.nd rfl (Or.inr rfl) (pe_callTy (cList K) (by rfl) T.n_list (by decide +kernel) (pa_cons (pv 3) pa_nil)))
      (pss_cons (ps_if (PW.pt (pw_or (pt_not (pt_val (q_call (c__law_same T 8) hr (by decide) rfl (passes_call (takes_of rfl rfl rfl rfl) (fun _ _ _ _ h => h)) (pa_cons (q_kind T TB rfl hr (LamX.lamS_by (sc := defScope s_law) (by decide +kernel)) rfl (fun _ _ _ _ _ => rfl) (fun A outer s H E f c2 hr => (q_call (c_standing T) hr (by decide) rfl (passes_call (takes_of rfl rfl rfl rfl) (fun _ _ _ _ h => h)) (pa_cons (pv 5) pa_nil))) rfl) (pa_cons (pv 4) pa_nil))))) (pw_or1 (pt_cmpR (opNeD K hr.units) (pv 5) (pv 3) (by first | exact nomark _ | rfl))))) (pss_one (ps_ret pe_bl)) pss_nil)
      (pss_cons (ps_set (i := 6) sc_law.nd rfl (Or.inr rfl) (pe_ix (ixL K) (pe_lst (pa_cons (pe_op op_add pe_int (q_call (c__law_drawn T) hr (by decide) rfl (passes_call (takes_of rfl rfl rfl rfl) (fun _ _ _ _ h => h)) (pa_cons (pv 1) (pa_cons pe_int pa_nil)))) (pa_cons pe_int (pa_cons pe_int pa_nil)))) (q_call (c__law_drawn T) hr (by decide) rfl (passes_call (takes_of rfl rfl rfl rfl) (fun _ _ _ _ h => h)) (pa_cons (pv 1) (pa_cons pe_int pa_nil))) (fun _ _ => rfl)))
      (pss_cons (ps_set (i := 7) sc_law.nd rfl (Or.inr rfl) (pe_ix (ixL K) (pe_lst (pa_cons (q_call (c__law_drawn T) hr (by decide) rfl (passes_call (takes_of rfl rfl rfl rfl) (fun _ _ _ _ h => h)) (pa_cons (pv 1) (pa_cons pe_int pa_nil))) (pa_cons pe_int (pa_cons pe_int pa_nil)))) (q_call (c__law_drawn T) hr (by decide) rfl (passes_call (takes_of rfl rfl rfl rfl) (fun _ _ _ _ h => h)) (pa_cons (pv 1) (pa_cons pe_int pa_nil))) (fun _ _ => rfl)))
      (pss_cons (ps_set (i := 8) sc_law.nd rfl (Or.inr rfl) (pe_ix (ixL K) (pe_lst (pa_cons pe_int (pa_cons (q_call (c__law_far T) hr (by decide) rfl (passes_call (takes_of rfl rfl rfl rfl) (fun _ _ _ _ h => h)) (pa_cons (pv 1) (pa_cons pe_int pa_nil))) pa_nil))) (q_call (c__law_drawn T) hr (by decide) rfl (passes_call (takes_of rfl rfl rfl rfl) (fun _ _ _ _ h => h)) (pa_cons (pv 1) (pa_cons pe_int pa_nil))) (fun _ _ => rfl)))
      (pss_cons (ps_set (i := 9) sc_law.nd rfl (Or.inr rfl) (q_call (c__law_far T) hr (by decide) rfl (passes_call (takes_of rfl rfl rfl rfl) (fun _ _ _ _ h => h)) (pa_cons (pv 1) (pa_cons pe_int pa_nil))))
      (pss_cons (ps_set (i := 10) sc_law.nd rfl (Or.inl rfl) (pe_lst (pa_cons (pe_lamV KL TB rfl (LamX.lamS_by (sc := defScope s_law) (by decide +kernel)) rfl (fun _ _ _ _ _ => rfl) (fun A outer s H E f c2 hr => (q_make (mk_Meter T) hr (by decide) rfl (passes_call (takes_of rfl rfl rfl rfl) (fun _ _ _ _ h => h)) (pa_cons (pv 8) (pa_cons (pv 7) pa_nil))))) pa_nil)))
      (pss_cons (ps_expr (bmK K PySem.F.plainAttrs_list PySem.F.slot_list_append PySem.F.type_list_append mt_append (pv 10) (pa_cons (pe_lamV KL TB rfl (LamX.lamS_by (sc := defScope s_law) (by decide +kernel)) rfl (fun _ _ _ _ _ => rfl) (fun A outer s H E f c2 hr => (q_make (mk_Meter T) hr (by decide) rfl (passes_call (takes_of rfl rfl rfl rfl) (fun _ _ _ _ h => h)) (pa_cons (pv 6) (pa_cons (pv 9) pa_nil))))) pa_nil)))
      (pss_cons (ps_expr (bmK K PySem.F.plainAttrs_list PySem.F.slot_list_append PySem.F.type_list_append mt_append (pv 10) (pa_cons (pe_lamV KL TB rfl (LamX.lamS_by (sc := defScope s_law) (by decide +kernel)) rfl (fun _ _ _ _ _ => rfl) (fun A outer s H E f c2 hr => (q_make (mk_House T) hr (by decide) rfl (passes_call (takes_of rfl rfl rfl rfl) (fun _ _ _ _ h => h)) (pa_cons (pv 9) (pa_cons (pe_lst (pa_cons (pv 6) pa_nil)) pa_nil))))) pa_nil)))
      (pss_cons (ps_expr (bmK K PySem.F.plainAttrs_list PySem.F.slot_list_append PySem.F.type_list_append mt_append (pv 10) (pa_cons (pe_lamV KL TB rfl (LamX.lamS_by (sc := defScope s_law) (by decide +kernel)) rfl (fun _ _ _ _ _ => rfl) (fun A outer s H E f c2 hr => (q_make (mk_House T) hr (by decide) rfl (passes_call (takes_of rfl rfl rfl rfl) (fun _ _ _ _ h => h)) (pa_cons (pv 7) (pa_cons (pe_lst (pa_cons (pv 6) (pa_cons (pv 8) pa_nil))) pa_nil))))) pa_nil)))
      (pss_cons (ps_expr (bmK K PySem.F.plainAttrs_list PySem.F.slot_list_append PySem.F.type_list_append mt_append (pv 10) (pa_cons (pe_lamV KL TB rfl (LamX.lamS_by (sc := defScope s_law) (by decide +kernel)) rfl (fun _ _ _ _ _ => rfl) (fun A outer s H E f c2 hr => (q_make (mk_House T) hr (by decide) rfl (passes_call (takes_of rfl rfl rfl rfl) (fun _ _ _ _ h => h)) (pa_cons (pv 7) (pa_cons (pe_lst pa_nil) pa_nil))))) pa_nil)))
      (pss_cons (ps_expr (bmK K PySem.F.plainAttrs_list PySem.F.slot_list_append PySem.F.type_list_append mt_append (pv 10) (pa_cons (pe_lamV KL TB rfl (LamX.lamS_by (sc := defScope s_law) (by decide +kernel)) rfl (fun _ _ _ _ _ => rfl) (fun A outer s H E f c2 hr => (q_make (mk_House T) hr (by decide) rfl (passes_call (takes_of rfl rfl rfl rfl) (fun _ _ _ _ h => h)) (pa_cons (pv 7) (pa_cons (pe_lst (pa_cons pe_int (pa_cons pe_int (pa_cons pe_int (pa_cons pe_int (pa_cons pe_int pa_nil)))))) pa_nil))))) pa_nil)))
      (pss_cons (ps_expr (bmK K PySem.F.plainAttrs_list PySem.F.slot_list_append PySem.F.type_list_append mt_append (pv 10) (pa_cons (pe_lamV KL TB rfl (LamX.lamS_by (sc := defScope s_law) (by decide +kernel)) rfl (fun _ _ _ _ _ => rfl) (fun A outer s H E f c2 hr => (q_make (mk_House T) hr (by decide) rfl (passes_call (takes_of rfl rfl rfl rfl) (fun _ _ _ _ h => h)) (pa_cons (pv 7) (pa_cons (pe_lst (pa_cons pe_int (pa_cons (pv 6) (pa_cons pe_int (pa_cons pe_int pa_nil))))) pa_nil))))) pa_nil)))
      (pss_cons (ps_expr (bmK K PySem.F.plainAttrs_list PySem.F.slot_list_append PySem.F.type_list_append mt_append (pv 10) (pa_cons (pe_lamV KL TB rfl (LamX.lamS_by (sc := defScope s_law) (by decide +kernel)) rfl (fun _ _ _ _ _ => rfl) (fun A outer s H E f c2 hr => (q_call (c_recovered T) hr (by decide) rfl (passes_call (takes_of rfl rfl rfl rfl) (fun _ _ _ _ h => h)) (pa_cons (pv 8) (pa_cons (pv 7) (pa_cons (pe_op op_cat (pe_lst (pa_cons pe_int pa_nil)) (pe_op op_rep (pe_lst (pa_cons pe_int pa_nil)) pe_int)) (pa_cons (pe_lst pa_nil) pa_nil))))))) pa_nil)))
      (pss_cons (ps_expr (bmK K PySem.F.plainAttrs_list PySem.F.slot_list_append PySem.F.type_list_append mt_append (pv 10) (pa_cons (pe_lamV KL TB rfl (LamX.lamS_by (sc := defScope s_law) (by decide +kernel)) rfl (fun _ _ _ _ _ => rfl) (fun A outer s H E f c2 hr => (q_call (c_recovered T) hr (by decide) rfl (passes_call (takes_of rfl rfl rfl rfl) (fun _ _ _ _ h => h)) (pa_cons (pv 6) (pa_cons (pv 9) (pa_cons (pe_op op_cat (pe_lst (pa_cons pe_int pa_nil)) (pe_op op_rep (pe_lst (pa_cons pe_int pa_nil)) pe_int)) (pa_cons (pe_lst pa_nil) pa_nil))))))) pa_nil)))
      (pss_cons (ps_if (pt_cmpR (opNeD K hr.units) (pe_lcI (own := [("_law_work", 11)]) rfl sc_law.nd (piL K (pv 10)) (blkOk_by (own := [("_law_work", 11)]) (N := N_law) (sc := defScope s_law) (by decide +kernel)) (fun _ _ _ _ _ => pg_name (i := 11) sc_law.nd rfl (by first | exact Or.inl rfl | exact Or.inr rfl)) (fun ps σ0 s H C cl fp I0 f0 => (pts_one (pt_cmpR (opNeD K hr.units) (q_kindV T I0 f0 (i := 11) rfl (.inl rfl) hr (by rfl)) pe_str (by first | exact nomark _ | rfl)))) (fun _ _ _ _ _ => (pv 11))) (pe_lst pa_nil) (by first | exact nomark _ | rfl)) (pss_one (ps_ret pe_bl)) pss_nil)
      (pss_cons (ps_if (PW.pt (pw_and (pt_cmpR op_eq (pv 4) pe_str (by first | exact nomark _ | rfl)) (pw_and1 (pt_cmpR (opNeD K hr.units) (q_kind T TB rfl hr (LamX.lamS_by (sc := defScope s_law) (by decide +kernel)) rfl (fun _ _ _ _ _ => rfl) (fun A outer s H E f c2 hr => (q_call (c_recovered T) hr (by decide) rfl (passes_call (takes_of rfl rfl rfl rfl) (fun _ _ _ _ h => h)) (pa_cons (pv 6) (pa_cons (pv 7) (pa_cons (pv 5) (pa_cons (pe_lst pa_nil) pa_nil)))))) rfl) pe_str (by first | exact nomark _ | rfl))))) (pss_one (ps_ret pe_bl)) pss_nil)
      (pss_one (ps_if (pt_not (pt_val (q_call (c__law_same T 8) hr (by decide) rfl (passes_call (takes_of rfl rfl rfl rfl) (fun _ _ _ _ h => h)) (pa_cons (q_meth0 (mt_Meter_number T) hr (by decide) (q_make (mk_Meter T) hr (by decide) rfl (passes_call (takes_of rfl rfl rfl rfl) (fun _ _ _ _ h => h)) (pa_cons (pv 6) (pa_cons (pv 7) pa_nil))) (passes_call (takes_of rfl rfl rfl rfl) (fun _ _ _ _ h => h))) (pa_cons (pv 6) pa_nil))))) (pss_one (ps_ret pe_bl)) pss_nil)))))))))))))))))))))))
      (pss_one (ps_ret pe_bl)))), ?_⟩
    have T0 : LamX.Tabs [(T.f_law.P, lamQ)] H := fun p hp => by
      rw [List.mem_singleton.mp hp]
      exact LamX.TabS.nil hT
    wtm_at "go"
    refine ⟨a, ns, rfl, hS, hl, fun r H1 n1 m1 S1 => ?_⟩
    obtain ⟨H0, f0, nt0, S1⟩ := S1.cut
    have T1 := Tabs.mx0 T0 m1
    clear m1 T0 hT hS n1 f0
    wtm_at "go"
    refine g_forR (fun i σ' H' => ∃ x2 x3 x4 x5 x6 x7 x8 x9 x10, σ' = [some (.ref a), some (.ref r), x2, x3, x4, x5, x6, x7, x8, x9, x10, none] ∧ StAt K H0 H' r ∧ LamX.Tabs [(T.f_law.P, lamQ)] H')
      ⟨none, none, none, none, none, none, none, none, none, rfl, S1, T1⟩ (fun i σ' H4 hi hP => ?_) (fun σ' H4 hP => ?_)
    · clear S1 T1
      obtain ⟨x2, x3, x4, x5, x6, x7, x8, x9, x10, rfl, S4, T4⟩ := hP
      wtm_at "go"
      refine ⟨H0, r, rfl, S4, fun lc cs H5 fc lcs m5 S5 e5 => ?_⟩
      have T5 := Tabs.mx T4 m5 S4.nx
      have rc : lc ≠ r := S4.new fc
      clear m5 S4 T4 fc
      wtm_at "gi"
      refine g_cutS (fun N => ∀ (due : V) H6, Mx [] H5 H6 → (Any cs → due = .int (stand cs)) → (¬ Any cs → due = .str (Rf.word .bank)) → N [some (.ref a), some (.ref r), some (.int (0 + (i : Int))), some (.ref lc), some due, x5, x6, x7, x8, x9, x10, none] H6) (fun N hN => ?_) (fun due H6 m6 d1 d2 => ?_)
      · wtm_at "go"
        rw [List.length_map]
        refine g_ite (fun e20 => ?_) (fun e20 => ?_)
        · have e20 : cs.length = 20 := by
            simp at e20
            omega
          wtm_at "go"
          rename_i l7 H7 n7 m7 e7
          refine g_in1 e7 ?_
          wtm_at "go"
          refine g_ite (fun e1 => ?_) (fun e1 => ?_)
          · have e1 : cl cs 0 = 1 ∨ cl cs 10 = 1 := by simpa using e1
            have hA : Any cs := ⟨e20, e1⟩
            wtm_at "go"
            refine g_ite (fun c0 => ?_) (fun c0 => ?_)
            · have c0 : ¬ cl cs 0 = 1 := by simpa using c0
              wtm_at "go"
              refine hN _ _ m7 (fun _ => ?_) (fun z => absurd hA z)
              have : stand cs = 1 := by unfold stand; rw [if_neg fun z => c0 z.1]
              rw [this]
              rfl
            · have c0 : cl cs 0 = 1 := by simpa using c0
              wtm_at "go"
              refine g_ite (fun c10 => ?_) (fun c10 => ?_)
              · have c10 : cl cs 10 = 1 := by simpa using c10
                wtm_at "go"
                refine hN _ _ m7 (fun _ => ?_) (fun z => absurd hA z)
                by_cases c1 : cl cs 1 < cl cs 11
                · have : stand cs = 1 := by unfold stand; rw [if_neg fun z => z.2 ⟨c10, c1⟩]
                  rw [this]
                  simp [c1]
                · have : stand cs = 0 := by unfold stand; rw [if_pos ⟨c0, fun z => c1 z.2⟩]
                  rw [this]
                  simp [c1]
              · have c10 : ¬ cl cs 10 = 1 := by simpa using c10
                wtm_at "go"
                refine hN _ _ m7 (fun _ => ?_) (fun z => absurd hA z)
                have : stand cs = 0 := by unfold stand; rw [if_pos ⟨c0, fun z => c10 z.1⟩]
                rw [this]
                rfl
          · have e1 : ¬ (cl cs 0 = 1 ∨ cl cs 10 = 1) := by simpa using e1
            wtm_at "go"
            exact hN _ _ m7 (fun z => absurd z.2 e1) (fun _ => rfl)
        · have e20 : ¬ cs.length = 20 := by
            simp at e20
            omega
          wtm_at "go"
          exact hN _ _ Mx.refl (fun z => absurd z.1 e20) (fun _ => rfl)
      have S6 := S5.mx0 m6
      have T6 := Tabs.mx0 T5 m6
      have ec6 := m6.get0 e5
      clear m6 e5 S5 T5
      wtm_at "go"
      rename_i lh H7 n7 m7 e7
      have S7 := S6.mx0 m7
      have T7 := Tabs.mx0 T6 m7
      have ec7 := m7.get0 ec6
      have rh : lh ≠ r := S6.new n7
      clear m7 n7 S6 T6 ec6
      refine g_cut (fun Q' => ∀ v H9, StAt K H0 H9 r → LamX.Tabs [(T.f_law.P, lamQ)] H9 → H9 lc = some (.lst (cs.map V.int)) → H9 lh = some (.lst (cs.map V.int)) → (Any cs → v = .int (stand cs)) → (¬ Any cs → v = .str (Rf.word .bank)) → Q' v H9) (fun Q' hQ => ?_) (fun v H9 S9 T9 ec9 eh9 v1 v2 => ?_)
      · refine ⟨T7, fun H8 x8 T8 => ?_⟩
        have S8 := S7.extn nt0 x8
        have ec8 : H8 lc = some (.lst (cs.map V.int)) := x8 _ _ ec7 (fun _ z => nomatch z)
        have eh8 : H8 lh = some (.lst (cs.map V.int)) := x8 _ _ e7 (fun _ z => nomatch z)
        refine g_kindK T ?_
        clear S7 T7 ec7 e7 x8
        wtm_at "go"
        refine ⟨lh, cs, rfl, SqL.of eh8, by omega, fun hA H9 m9 => ?_, fun hA H9 m9 => ⟨.bank, rfl, rfl, fun H10 m10 => ?_⟩⟩
        · exact hQ _ H9 (S8.mx0 m9) (Tabs.mx0 T8 m9) (m9.get0 ec8) (m9.get0 eh8) (fun _ => rfl) (fun z => absurd hA z)
        · have m := m9.trans m10
          exact hQ _ H10 (S8.mx0 m) (Tabs.mx0 T8 m) (m.get0 ec8) (m.get0 eh8) (fun z => absurd z hA) (fun _ => rfl)
      clear S7 T7 ec7 e7
      obtain ⟨dd, hd1, hd2, hd3, hd4⟩ : ∃ dd : PyData, dd.depth < 8 ∧ okD dd = true ∧ (∀ H, Dp K H v dd) ∧ ∀ H, Dp K H due dd := by
        by_cases hA : Any cs
        · rw [v1 hA, d1 hA]
          exact ⟨.int (stand cs), by simp [PyData.depth], rfl, fun _ => .int _, fun _ => .int _⟩
        · rw [v2 hA, d2 hA]
          exact ⟨.str (Rf.word .bank), by simp [PyData.depth], rfl, fun _ => .str _, fun _ => .str _⟩
      wtm_at "go"
      refine ⟨v, due, dd, rfl, hd1, hd2, hd3 _, hd4 _, fun H10 m10 => ?_⟩
      have S10 := S9.mx0 m10
      have T10 := Tabs.mx0 T9 m10
      have ec10 := m10.get0 ec9
      have eh10 := m10.get0 eh9
      clear S9 T9 ec9 eh9 m10 hd1 hd2 hd3 hd4 v1 v2
      refine g_bl ?_
      refine g_no rfl ?_
      wtm_at "go"
      refine g_neI (SqL.of eh10) (SqL.of ec10) ?_
      wtm_at "go"
      refine g_no (by simp) ?_
      wtm_at "go"
      refine ⟨H0, r, 9999, rfl, S10, by omega, by omega, fun yN HaN uN vN maN SaN => ?_⟩
      have TaN := Tabs.mx T10 maN (StAt.nx S10)
      have caN : HaN lc = some (.lst (cs.map V.int)) := maN _ _ ec10 (by simpa using rc)
      have haN : HaN lh = some (.lst (cs.map V.int)) := maN _ _ eh10 (by simpa using rh)
      clear S10 T10 ec10 eh10 maN
      wtm_at "go"
      rename_i lbN HbN nbN mbN ebN
      have rbN : lbN ≠ r := SaN.new nbN
      refine ⟨H0, r, 3, rfl, SaN.mx0 mbN, by omega, by omega, fun zN HcN pN qN mcN ScN => ?_⟩
      have eeN := mcN _ _ ebN (by simpa using rbN)
      have TcN := Tabs.mx (Tabs.mx0 TaN mbN) mcN (SaN.mx0 mbN).nx
      have ccN : HcN lc = some (.lst (cs.map V.int)) := mcN _ _ (mbN.get0 caN) (by simpa using rc)
      have hcN : HcN lh = some (.lst (cs.map V.int)) := mcN _ _ (mbN.get0 haN) (by simpa using rh)
      obtain ⟨nu, hatN, hbN⟩ : ∃ nu : Int, atI [V.int (1 + yN), V.int 1, V.int 9999] zN = some (.int nu) ∧ 1 ≤ nu ∧ nu ≤ 9999 := by
        have hz : zN = 0 ∨ zN = 1 ∨ zN = 2 := by omega
        rcases hz with rfl | rfl | rfl
        · exact ⟨_, rfl, by omega, by omega⟩
        · exact ⟨_, rfl, by omega, by omega⟩
        · exact ⟨_, rfl, by omega, by omega⟩
      clear SaN TaN caN haN mbN mcN ebN nbN rbN
      wtm_at "go"
      refine ⟨H0, r, 999982, rfl, ScN, by omega, by omega, fun yK HaK uK vK maK SaK => ?_⟩
      have TaK := Tabs.mx TcN maK (StAt.nx ScN)
      have caK : HaK lc = some (.lst (cs.map V.int)) := maK _ _ ccN (by simpa using rc)
      have haK : HaK lh = some (.lst (cs.map V.int)) := maK _ _ hcN (by simpa using rh)
      clear ScN TcN ccN hcN maK
      wtm_at "go"
      rename_i lbK HbK nbK mbK ebK
      have rbK : lbK ≠ r := SaK.new nbK
      refine ⟨H0, r, 3, rfl, SaK.mx0 mbK, by omega, by omega, fun zK HcK pK qK mcK ScK => ?_⟩
      have eeK := mcK _ _ ebK (by simpa using rbK)
      have TcK := Tabs.mx (Tabs.mx0 TaK mbK) mcK (SaK.mx0 mbK).nx
      have ccK : HcK lc = some (.lst (cs.map V.int)) := mcK _ _ (mbK.get0 caK) (by simpa using rc)
      have hcK : HcK lh = some (.lst (cs.map V.int)) := mcK _ _ (mbK.get0 haK) (by simpa using rh)
      obtain ⟨ke, hatK, hbK⟩ : ∃ ke : Int, atI [V.int yK, V.int 0, V.int 999981] zK = some (.int ke) ∧ 0 ≤ ke ∧ ke ≤ 999981 := by
        have hz : zK = 0 ∨ zK = 1 ∨ zK = 2 := by omega
        rcases hz with rfl | rfl | rfl
        · exact ⟨_, rfl, by omega, by omega⟩
        · exact ⟨_, rfl, by omega, by omega⟩
        · exact ⟨_, rfl, by omega, by omega⟩
      clear SaK TaK caK haK mbK mcK ebK nbK rbK
      wtm_at "go"
      refine ⟨H0, r, 9999, rfl, ScK, fun yO HaO fO maO SaO => ?_⟩
      have TaO := Tabs.mx TcK maO ScK.nx
      have caO : HaO lc = some (.lst (cs.map V.int)) := maO _ _ ccK (by simpa using rc)
      have haO : HaO lh = some (.lst (cs.map V.int)) := maO _ _ hcK (by simpa using rh)
      clear ScK TcK ccK hcK maO
      wtm_at "go"
      rename_i lbO HbO nbO mbO ebO
      have rbO : lbO ≠ r := SaO.new nbO
      refine ⟨H0, r, 2, rfl, SaO.mx0 mbO, by omega, by omega, fun zO HcO pO qO mcO ScO => ?_⟩
      have eeO := mcO _ _ ebO (by simpa using rbO)
      have TcO := Tabs.mx (Tabs.mx0 TaO mbO) mcO (SaO.mx0 mbO).nx
      have ccO : HcO lc = some (.lst (cs.map V.int)) := mcO _ _ (mbO.get0 caO) (by simpa using rc)
      have hcO : HcO lh = some (.lst (cs.map V.int)) := mcO _ _ (mbO.get0 haO) (by simpa using rh)
      obtain ⟨od, hatO, hbO⟩ : ∃ od : Int, atI [V.int 0, V.int yO] zO = some (.int od) ∧ ¬ (1 ≤ od ∧ od ≤ 9999) := by
        have hz : zO = 0 ∨ zO = 1 := by omega
        rcases hz with rfl | rfl
        · exact ⟨_, rfl, by omega⟩
        · exact ⟨_, rfl, by omega⟩
      clear SaO TaO caO haO mbO mcO ebO nbO rbO
      wtm_at "go"
      refine ⟨H0, r, 999981, rfl, ScO, fun ba HdO fB mdO SdO => ?_⟩
      have TdO := Tabs.mx TcO mdO ScO.nx
      have cdO : HdO lc = some (.lst (cs.map V.int)) := mdO _ _ ccO (by simpa using rc)
      have hdO : HdO lh = some (.lst (cs.map V.int)) := mdO _ _ hcO (by simpa using rh)
      have hbB : ¬ (0 ≤ ba ∧ ba ≤ 999981) := by omega
      clear ScO TcO ccO hcO mdO eeO eeK eeN hatO hatK hatN
      wtm_at "go"
      refine ⟨TdO, fun f1 He xe Te ne ce => ?_⟩
      have SeO := SdO.extn nt0 xe
      have ceO : He lc = some (.lst (cs.map V.int)) := xe _ _ cdO (fun _ z => nomatch z)
      have heO : He lh = some (.lst (cs.map V.int)) := xe _ _ hdO (fun _ z => nomatch z)
      clear SdO TdO cdO hdO ne xe
      wtm_at "go"
      rename_i lw Hf nf mf ef
      have w1 : Wx T _ _ nu ke od ba H0 r lc lh cs lw Hf [.ref f1] := ⟨SeO.mx0 mf, Tabs.mx0 Te mf, mf.get0 ceO, mf.get0 heO, nt0, ef, fun x hx => ⟨f1, _, List.mem_singleton.mp hx, ce.mx mf (fun y hy => by simp at hy), bn_meter T (i := 8) (j := 7) (x := od) (y := ke) (fun σ _ h7 h8 _ => ⟨h8, h7⟩) (fun z => hbO z.1)⟩, SeO.new nf, SeO.mx.free0 nf, ne_of_none ceO nf, ne_of_none heO nf⟩
      clear SeO Te ceO heO mf ef ce nf
      refine ⟨w1.tb, fun f2 Hg2 xg2 Tg2 ng2 cg2 => ?_⟩
      have v2 := w1.extn xg2 Tg2
      have eg2 := v2.e
      clear w1 xg2 Tg2 ng2
      wtm_at "go"
      rename_i Hh2 mh2 eh2
      have w2 := v2.push mh2 eh2 cg2 (bn_meter T (i := 6) (j := 9) (x := nu) (y := ba) (fun σ h6 _ _ h9 => ⟨h6, h9⟩) (fun z => hbB z.2))
      clear v2 eg2 cg2 mh2 eh2
      refine ⟨w2.tb, fun f3 Hg3 xg3 Tg3 ng3 cg3 => ?_⟩
      have v3 := w2.extn xg3 Tg3
      have eg3 := v3.e
      clear w2 xg3 Tg3 ng3
      wtm_at "go"
      rename_i Hh3 mh3 eh3
      have w3 := v3.push mh3 eh3 cg3 (bn_house T (j := 9) (y := ba) (ms := [nu]) (fun σ h6 _ _ h9 => ⟨h9, fun H QA k => g_cons (g_var h6 (g_nil k))⟩) (by simp) (.inl hbB))
      clear v3 eg3 cg3 mh3 eh3
      refine ⟨w3.tb, fun f4 Hg4 xg4 Tg4 ng4 cg4 => ?_⟩
      have v4 := w3.extn xg4 Tg4
      have eg4 := v4.e
      clear w3 xg4 Tg4 ng4
      wtm_at "go"
      rename_i Hh4 mh4 eh4
      have w4 := v4.push mh4 eh4 cg4 (bn_house T (j := 7) (y := ke) (ms := [nu, od]) (fun σ h6 h7 h8 _ => ⟨h7, fun H QA k => g_cons (g_var h6 (g_cons (g_var h8 (g_nil k))))⟩) (by simp) (.inr (.inr (.inr ⟨od, by simp, hbO⟩))))
      clear v4 eg4 cg4 mh4 eh4
      refine ⟨w4.tb, fun f5 Hg5 xg5 Tg5 ng5 cg5 => ?_⟩
      have v5 := w4.extn xg5 Tg5
      have eg5 := v5.e
      clear w4 xg5 Tg5 ng5
      wtm_at "go"
      rename_i Hh5 mh5 eh5
      have w5 := v5.push mh5 eh5 cg5 (bn_house T (j := 7) (y := ke) (ms := []) (fun σ _ h7 _ _ => ⟨h7, fun H QA k => g_nil k⟩) (by simp) (.inr (.inl (by simp))))
      clear v5 eg5 cg5 mh5 eh5
      refine ⟨w5.tb, fun f6 Hg6 xg6 Tg6 ng6 cg6 => ?_⟩
      have v6 := w5.extn xg6 Tg6
      have eg6 := v6.e
      clear w5 xg6 Tg6 ng6
      wtm_at "go"
      rename_i Hh6 mh6 eh6
      have w6 := v6.push mh6 eh6 cg6 (bn_house T (j := 7) (y := ke) (ms := [1, 2, 3, 4, 5]) (fun σ _ h7 _ _ => ⟨h7, fun H QA k => g_cons (g_c (g_cons (g_c (g_cons (g_c (g_cons (g_c (g_cons (g_c (g_nil k))))))))))⟩) (by simp) (.inr (.inl (by simp))))
      clear v6 eg6 cg6 mh6 eh6
      refine ⟨w6.tb, fun f7 Hg7 xg7 Tg7 ng7 cg7 => ?_⟩
      have v7 := w6.extn xg7 Tg7
      have eg7 := v7.e
      clear w6 xg7 Tg7 ng7
      wtm_at "go"
      rename_i Hh7 mh7 eh7
      have w7 := v7.push mh7 eh7 cg7 (bn_house T (j := 7) (y := ke) (ms := [7, nu, 8, 7]) (fun σ h6 h7 _ _ => ⟨h7, fun H QA k => g_cons (g_c (g_cons (g_var h6 (g_cons (g_c (g_cons (g_c (g_nil k))))))))⟩) (by simp) (.inr (.inr (.inl (num3 nu)))))
      clear v7 eg7 cg7 mh7 eh7
      refine ⟨w7.tb, fun f8 Hg8 xg8 Tg8 ng8 cg8 => ?_⟩
      have v8 := w7.extn xg8 Tg8
      have eg8 := v8.e
      clear w7 xg8 Tg8 ng8
      wtm_at "go"
      rename_i Hh8 mh8 eh8
      have w8 := v8.push mh8 eh8 cg8 (bn_rec T (i := 8) (j := 7) (x := od) (y := ke) (fun σ _ h7 h8 _ => ⟨h8, h7⟩) (fun z => hbO z.1))
      clear v8 eg8 cg8 mh8 eh8
      refine ⟨w8.tb, fun f9 Hg9 xg9 Tg9 ng9 cg9 => ?_⟩
      have v9 := w8.extn xg9 Tg9
      have eg9 := v9.e
      clear w8 xg9 Tg9 ng9
      wtm_at "go"
      rename_i Hh9 mh9 eh9
      have w9 := v9.push mh9 eh9 cg9 (bn_rec T (i := 6) (j := 9) (x := nu) (y := ba) (fun σ h6 _ _ h9 => ⟨h6, h9⟩) (fun z => hbB z.2))
      clear v9 eg9 cg9 mh9 eh9
      refine g_lcI ?_
      have e9 := w9.e
      wtm_at "go"
      refine g_lcL (xs := [V.ref f1] ++ [V.ref f2] ++ [V.ref f3] ++ [V.ref f4] ++ [V.ref f5] ++ [V.ref f6] ++ [V.ref f7] ++ [V.ref f8] ++ [V.ref f9]) (fun _ => none) (by intro x; rfl) (by simp) (SqL.of w9.e) (fun j x Hx QN hx mx hQ => ?_) (fun Dl H11 hD m11 e11 => ?_)
      · obtain ⟨fx, tx, rfl, cx, bx⟩ := w9.c x (List.mem_of_getElem? hx)
        wtm_at "go"
        refine ⟨fx, tx, rfl, cx.mx mx (fun y hy => by simp at hy), bx _ _ _ rfl rfl rfl rfl fun Hy my => ?_⟩
        wtm_at "go"
        refine g_neD (d := .str (Rf.word .number)) (e := .str (Str.ofString "BadNumber")) (.str _) (.str _) (by decide +kernel) (by decide +kernel) ?_
        refine g_bl ?_
        refine g_no (by decide +kernel) ?_
        exact hQ none _ my rfl
      have e11' : H11 Dl = some (.lst (([] : List Int).map V.int)) := e11
      have wA := w9.mx0 m11
      clear w9 e9 m11 e11
      wtm_at "go"
      rename_i lz Hz nz mz ez
      have ez' : Hz lz = some (.lst (([] : List Int).map V.int)) := ez
      refine g_neI (SqL.of (mz.get0 e11')) (SqL.of ez') ?_
      refine g_bl ?_
      refine g_no (by decide) ?_
      have wB := wA.mx0 mz
      clear wA mz ez ez' e11' nz hD
      wtm_at "gi"
      refine g_cutS (fun N => ∀ HA, StAt K H0 HA r → LamX.Tabs [(T.f_law.P, lamQ)] HA → N [some (.ref a), some (.ref r), some (.int (0 + (i : Int))), some (.ref lc), some due, some (.ref lh), some (.int nu), some (.int ke), some (.int od), some (.int ba), some (.ref lw), none] HA) (fun N hN => ?_) (fun HA SA TA => ?_)
      · wtm_at "go"
        by_cases hA : Any cs
        · obtain rfl := d1 hA
          refine g_eq rfl ?_
          refine g_bl ?_
          refine g_no (by simp) ?_
          wtm_at "go"
          exact hN _ wB.st wB.tb
        · obtain rfl := d2 hA
          refine g_eq rfl ?_
          refine g_bl ?_
          refine g_yes (by decide +kernel) ?_
          wtm_at "go"
          refine ⟨wB.tb, fun Hq xq Tq => ?_⟩
          have wq := wB.extn xq Tq
          have eq := wq.eh
          clear wB xq Tq
          refine g_kindK T ?_
          wtm_at "go"
          rename_i lj Hj nj mj ej
          have ej' : Hj lj = some (.lst (([] : List Int).map V.int)) := ej
          refine ⟨nu, ke, lh, lj, cs, [], [], rfl, SqL.of (mj.get0 eq), by omega, SqL.of ej', .nil, fun _ z => absurd z hA, fun z => absurd ⟨hbN, hbK⟩ z, fun _ _ Hk mk => ⟨.bank, rfl, rfl, fun Hl ml => ?_⟩⟩
          have m := (mj.trans mk).trans ml
          have wl := wq.mx0 m
          clear wq mj mk ml m ej ej' eq
          wtm_at "go"
          refine g_neD (d := .str (Rf.word .bank)) (e := .str (Str.ofString "NoBank")) (.str _) (.str _) (by decide +kernel) (by decide +kernel) ?_
          refine g_bl ?_
          refine g_no (by decide +kernel) ?_
          wtm_at "go"
          exact hN _ wl.st wl.tb
      clear wB
      wtm_at "go"
      refine g_make ?_
      wtm_at "go"
      refine g_kMake fun pM dx HB nB mB eB => ?_
      refine ⟨pM, dx, nu, ke, rfl, eB, fun _ pm pp HC nC1 nC2 mC MC => g_kMk ?_, fun hv => absurd ⟨hbN, hbK⟩ hv⟩
      have cC : Mx [] HA HC := mB.own nB mC
      have SC := SA.mx0 cC
      have TC := Tabs.mx0 TA cC
      obtain ⟨dxo, obM⟩ := MC.ob
      clear SA TA cC mC mB eB nB
      wtm_at "go"
      refine ⟨pM, pm, pp, _, rfl, MC, ?_⟩
      wtm_at "go"
      refine ⟨.int nu, .int nu, .int nu, rfl, by simp [PyData.depth], rfl, .int _, .int _, fun HD mD => ?_⟩
      refine g_bl ?_
      refine g_no rfl ?_
      have SD := SC.mx0 mD
      have TD := Tabs.mx0 TC mD
      clear SC TC MC obM mD
      wtm_at "go"
      exact ⟨_, _, _, _, _, _, _, _, _, rfl, SD, TD⟩
    · clear S1 T1
      obtain ⟨x2, x3, x4, x5, x6, x7, x8, x9, x10, rfl, S4, T4⟩ := hP
      wtm_at "go"
      exact fin _
end
end Fk
namespace Fk
open PySem PySem.Spec PyProof.Rows L2
local macro_rules | `(tactic| wtm_at "ln") => `(tactic| first
  | omega
  | (simp only [List.length_cons, List.length_nil, List.length_map, List.length_append, List.length_replicate, List.length_take, List.length_drop, List.length_set]; omega)
  | (with_unfolding_all exact (by decide)))
local macro_rules | `(tactic| wtm_at "ar") => `(tactic| first
  | ((with_reducible show CMulW _ _); (refine' mulS ?_ ?_ <;> omega))
  | ((with_reducible show CDivW _ _); (refine' divS ?_ ?_ <;> omega))
  | ((with_reducible show CPow _ _); exact ⟨by decide, by decide, by decide⟩)
  | (show (0 : Int) < _; omega)
  | (with_unfolding_all exact (by decide)))
local macro_rules | `(tactic| wtm_at "at") => `(tactic| first
  | assumption
  | (refine' cl_atE ?e80 ?h80; (case' e80 => first | exact rfl | assumption); (case' h80 => wtm_at "ln"))
  | exact rfl)
local macro_rules | `(tactic| wtm_at "fr") => `(tactic| first
  | assumption
  | ((with_reducible refine' Mx.free0 ?m99 ?h99); (case' h99 => assumption); (case' m99 => wtm_at "mo")))
local macro_rules | `(tactic| wtm_at "hp") => `(tactic| first
  | assumption
  | ((with_reducible refine' Mx.get0 ?m1 ?h1); (case' m1 => assumption); (case' h1 => wtm_at "hp"))
  | ((with_reducible refine' Mx.get ?m2 ?n2 ?h2); (case' m2 => assumption); (case' n2 => wtm_at "nin"); (case' h2 => wtm_at "hp")))
local macro_rules | `(tactic| wtm_at "sl") => `(tactic| first
  | assumption
  | ((with_reducible refine' Mx.sqL0 ?m96 ?h96); (case' h96 => assumption); (case' m96 => wtm_at "mo"))
  | (refine' SqL.of ?h3; (case' h3 => wtm_at "hp"))
  | ((with_reducible refine' Mx.sqL0 ?m4 ?h4); (case' m4 => assumption); (case' h4 => wtm_at "sl"))
  | ((with_reducible refine' Mx.sqL ?m5 ?n5 ?h5); (case' m5 => assumption); (case' n5 => wtm_at "nin"); (case' h5 => wtm_at "sl")))
local macro_rules | `(tactic| wtm_at "st") => `(tactic| first
  | assumption
  | ((with_reducible refine' Mx.sqT0 ?m97 ?h97); (case' h97 => assumption); (case' m97 => wtm_at "mo"))
  | (refine' SqT.of ?h6; (case' h6 => wtm_at "hp"))
  | ((with_reducible refine' Mx.sqT0 ?m7 ?h7); (case' m7 => assumption); (case' h7 => wtm_at "st"))
  | ((with_reducible refine' Mx.sqT ?m8 ?n8 ?h8); (case' m8 => assumption); (case' n8 => wtm_at "nin"); (case' h8 => wtm_at "st")))
local macro_rules | `(tactic| wtm_at "mx") => `(tactic| first
  | assumption
  | exact Mx.refl
  | ((with_reducible refine' Mx.of0 ?h9); (case' h9 => assumption))
  | ((with_reducible refine' Mx.trans ?h10 ?m10); (case' m10 => first | assumption | ((with_reducible refine' Mx.of0 ?q10); (case' q10 => assumption))); (case' h10 => wtm_at "mx")))
local macro_rules | `(tactic| wtm_at "mo") => `(tactic| first
  | wtm_at "mx"
  | ((with_reducible refine' Mx.own ?m90 ?f90 ?k90); (case' k90 => assumption); (case' f90 => wtm_at "fr"); (case' m90 => wtm_at "mo"))
  | ((with_reducible refine' Mx.trans ?h91 ?m91); (case' m91 => first | assumption | ((with_reducible refine' Mx.of0 ?q91); (case' q91 => assumption))); (case' h91 => wtm_at "mo")))
local macro_rules | `(tactic| wtm_at "ne") => `(tactic| first
  | assumption
  | exact Ne.symm (by assumption)
  | ((with_reducible refine' ne_of_none ?x94 ?y94); (case' y94 => assumption); (case' x94 => wtm_at "hp"))
  | ((with_reducible refine' Ne.symm (ne_of_none ?x95 ?y95)); (case' y95 => assumption); (case' x95 => wtm_at "hp")))
local macro_rules | `(tactic| wtm_at "nin") => `(tactic| first
  | assumption
  | exact List.not_mem_nil
  | ((with_reducible refine' List.not_mem_cons_of_ne_of_not_mem ?h98 ?t98); (case' h98 => wtm_at "ne"); (case' t98 => wtm_at "nin")))
local macro_rules | `(tactic| wtm_at "g1") => `(tactic| first
  | ((with_reducible refine' g_var ?h11 ?k11); (case' h11 => exact rfl))
  | with_reducible refine' g_c ?_
  | with_reducible refine' g_op ?_
  | with_reducible refine' g_I0 ?_
  | ((with_reducible refine' g_I ?c12 ?k12); (case' c12 => wtm_at "ar"))
  | with_reducible refine' g_cons ?_
  | with_reducible refine' g_nil ?_
  | with_reducible refine' g_seq ?_
  | with_reducible refine' g_asg ?_
  | with_reducible refine' g_name ?_
  | with_reducible refine' g_ret ?_
  | with_reducible refine' g_if ?_
  | with_reducible refine' g_test ?_
  | with_reducible refine' g_tB ?_
  | with_reducible refine' g_bl ?_
  | ((with_reducible refine' g_eq ?h13 ?k13); (case' h13 => exact rfl))
  | ((with_reducible refine' g_ne ?h14 ?k14); (case' h14 => exact rfl))
  | with_reducible refine' g_CB ?_
  | with_reducible refine' g_call ?_
  | with_reducible refine' g_drop ?_
  | with_reducible refine' g_next ?_
  | with_reducible refine' g_not ?_
  | with_reducible refine' g_and ?_
  | with_reducible refine' g_or ?_
  | with_reducible refine' g_un ?_
  | with_reducible refine' g_U ?_
  | with_reducible refine' g_tup ?_
  | with_reducible refine' g_lst ?_
  | ((with_reducible refine' g_kNew ?h15 ?k15); (case' h15 => wtm_at "ln"); (case' k15 => intro _ _ _ _ _))
  | ((with_reducible refine' g_ixL ?h16 ?a16 ?k16); (case' h16 => wtm_at "sl"); (case' a16 => wtm_at "at"))
  | ((with_reducible refine' g_ixT ?h17 ?a17 ?k17); (case' h17 => wtm_at "st"); (case' a17 => wtm_at "at"))
  | with_reducible refine' g_slice ?_
  | with_reducible refine' g_part ?_
  | with_reducible refine' g_kPart ?_
  | with_reducible refine' g_noPart ?_
  | ((with_reducible refine' g_slL ?h18 ?k18); (case' h18 => wtm_at "sl"); (case' k18 => intro _ _ _ _ _))
  | ((with_reducible refine' g_cat ?h119 ?h219 ?l19 ?k19); (case' h119 => wtm_at "hp"); (case' h219 => wtm_at "hp"); (case' l19 => wtm_at "ln"); (case' k19 => intro _ _ _ _ _))
  | ((with_reducible refine' g_rep ?h120 ?h220 ?h320 ?l20 ?k20); (case' h120 => wtm_at "hp"); (case' h220 => wtm_at "ln"); (case' h320 => wtm_at "ln"); (case' l20 => wtm_at "ln"); (case' k20 => intro _ _ _ _ _))
  | ((with_reducible refine' g_append ?h21 ?l21 ?k21); (case' h21 => wtm_at "hp"); (case' l21 => wtm_at "ln"); (case' k21 => intro _ _ _))
  | ((with_reducible refine' g_kBM ?h22 ?k22); (case' h22 => wtm_at "sl"))
  | ((with_reducible refine' g_kBM0 ?h23 ?k23); (case' h23 => wtm_at "sl"))
  | ((with_reducible refine' g_kL ?h24 ?k24); (case' h24 => wtm_at "sl"))
  | ((with_reducible refine' g_kR1 ?h125 ?h225 ?k25); (case' h125 => wtm_at "ln"); (case' h225 => wtm_at "ln"))
  | ((with_reducible refine' g_kR2 ?h126 ?h226 ?h326 ?h426 ?k26); (case' h126 => wtm_at "ln"); (case' h226 => wtm_at "ln"); (case' h326 => wtm_at "ln"); (case' h426 => wtm_at "ln"))
  | ((with_reducible refine' g_lenL ?h27 ?k27); (case' h27 => wtm_at "sl"))
  | ((with_reducible refine' g_lenT ?h28 ?k28); (case' h28 => wtm_at "st"))
  | ((with_reducible refine' g_listL ?h29 ?k29); (case' h29 => wtm_at "sl"); (case' k29 => intro _ _ _ _ _))
  | ((with_reducible refine' g_tupleL ?h30 ?k30); (case' h30 => wtm_at "sl"); (case' k30 => intro _ _ _ _ _))
  | with_reducible refine' g_max ?_
  | with_reducible refine' g_min ?_
  | with_reducible refine' g_intB ?_
  | with_reducible refine' g_fld ?_
  | with_reducible refine' g_put ?_
  | with_reducible refine' g_dget ?_
  | with_reducible refine' g_isN ?_
  | with_reducible refine' g_notN ?_
  | with_reducible refine' g_ifE ?_
  | with_reducible refine' g_andV ?_
  | with_reducible refine' g_orV ?_
  | with_reducible refine' g_notV ?_
  | with_reducible refine' g_kIf ?_
  | with_reducible refine' g_chain ?_
  | with_reducible refine' g_kCh ?_
  | with_reducible refine' g_sub ?_
  | ((with_reducible refine' g_setI ?h92 ?e92 ?j92 ?k92); (case' h92 => wtm_at "hp"); (case' e92 => first | exact rfl | assumption); (case' j92 => wtm_at "ln"); (case' k92 => intro _ _ _))
  | ((with_reducible refine' g_setL ?h89 ?i89 ?k89); (case' h89 => wtm_at "hp"); (case' i89 => exact ixE rfl (by wtm_at "ln")); (case' k89 => intro _ _ _))
  | ((with_reducible refine' g_gtup ?h93 ?e93 ?k93); (case' h93 => wtm_at "st"); (case' e93 => exact rfl))
  | with_reducible refine' g_gcons ?_
  | with_reducible refine' g_gnil ?_
  | with_reducible refine' g_par ?_
  | with_reducible refine' g_kPar ?_
  | with_reducible refine' g_meth ?_
  | with_reducible refine' g_bm ?_
  | with_reducible refine' g_bm0 ?_
  | with_reducible refine' g_raise ?_
  | with_reducible refine' g_for ?_
  | with_reducible refine' g_iR1 ?_
  | with_reducible refine' g_iR2 ?_
  | with_reducible refine' g_iL ?_
  | with_reducible refine' g_lc ?_
  | with_reducible refine' g_retN ?_
  | with_reducible refine' g_no (b := false) rfl ?_
  | with_reducible refine' g_yes (b := true) rfl ?_)
local macro_rules | `(tactic| wtm_at "go") => `(tactic| repeat (wtm_at "g1"))
local macro_rules | `(tactic| wtm_at "gs") => `(tactic| repeat ((fail_if_success (with_reducible refine' g_ifE ?_)); wtm_at "g1"))
local macro_rules | `(tactic| wtm_at "gi") => `(tactic| repeat ((fail_if_success (with_reducible refine' g_if ?_)); wtm_at "g1"))
local macro_rules | `(tactic| wtm_at "gr") => `(tactic| repeat ((fail_if_success (with_reducible refine' g_ret ?_)); wtm_at "g1"))
local macro_rules | `(tactic| wtm_at "gq") => `(tactic| repeat ((fail_if_success (with_reducible refine' g_asg ?_)); wtm_at "g1"))
theorem law_at {l : PySem.W.OpenLaw} {w : World} {K : PySem.W.Frag} {mg : Str → Option Value} {h : Heap} {fa : Addr} (T : Tx K mg) (hfa : mg "law" = some (.ref fa)) (hT : h.get? T.f_law.P = some { cls := .none, data := .fields #[] }) (nP : K.lookup T.f_law.P = none) (hC : PySem.W.CodeHd h T.f_law.c T.f_law.P)
    (hB : ∀ (s : Shared) (us : List Value), us.length = (["_law_script"] : List Str).length → BindsTo s T.f_law.d ⟨us, []⟩ ((["_law_script"] : List Str).zip us)) : LamX.LawAtS l w K (L2.CX l.prog w) 9 63 "_law_script" mg fa h := by
  have e : T.f_law.a = fa := by
    have := T.f_law.g.symm.trans hfa
    cases this
    rfl
  subst e
  refine ⟨T.f_law.d, [(T.f_law.c, T.f_law.P)], spLaw T, fun p hp => ?_, fun p hp => ?_, fun p hp => ?_, fun s u => hB s [u] rfl, fun H a ns hl _ hT2 hS => ?_, fun base _ _ TB => ok_law T (TB _ (List.mem_singleton.mpr rfl))⟩
  · rw [List.mem_singleton.mp hp]; exact hT
  · rw [List.mem_singleton.mp hp]; exact nP
  · rw [List.mem_singleton.mp hp]; exact hC
  · exact ⟨a, ns, rfl, hS, hl, hT2 _ (List.mem_singleton.mpr rfl), fun _ => rfl⟩
end Fk
open PySem PySem.W PyProof.Rows
set_option maxRecDepth 100000 in
set_option maxHeartbeats 0 in
theorem hd_test : PySem.Challenge.rw_frankmeter_k01_numbers_and_banks.Holds := by
  w_on; o_law; k_head; (case hw => w_witness2)
  k_fill
  refine LamX.walk_ofTs (l := PySem.Challenge.rw_frankmeter_k01_numbers_and_banks) (n := 63) (k := 9) (x := "_law_script") (CX := fun w => L2.CX (PySem.Challenge.rw_frankmeter_k01_numbers_and_banks).prog w) rfl (by decide) rfl ⟨rfl, by decide, by decide⟩ (fun w h Y => PySem.W.km_in_of Y) ?F ?C
  case C =>
    intro w H s e s2 z
    obtain ⟨_, _, _, _, _, _, _, _, _, _, _, _, z⟩ := z
    exact z
  case F =>
    intro w mg fa h Y KX G hmg
    have hTs := PySem.W.km_tabs_of Y
    refine' Fk.with_co KX G "WIDE" 10 ?az1 fun g_WIDE => ?_
    (case az1 => k_is)
    refine' Fk.with_co KX G "TURN" 1 ?az2 fun g_TURN => ?_
    (case az2 => k_is)
    refine' Fk.with_co KX G "MOST_NUMBER" 9999 ?az3 fun g_MOST_NUMBER => ?_
    (case az3 => k_is)
    refine' Fk.with_co KX G "MOST_KEY" 999981 ?az4 fun g_MOST_KEY => ?_
    (case az4 => k_is)
    refine' Fk.with_co KX G "MOST_METERS" 4 ?az5 fun g_MOST_METERS => ?_
    (case az5 => k_is)
    refine' Fk.with_bl KX G "ValueError" ?az6 fun n_ValueError => ?_
    (case az6 => k_is)
    refine' Fk.with_bl KX G "bool" ?az7 fun n_bool => ?_
    (case az7 => k_is)
    refine' Fk.with_bl KX G "dict" ?az8 fun n_dict => ?_
    (case az8 => k_is)
    refine' Fk.with_bl KX G "int" ?az9 fun n_int => ?_
    (case az9 => k_is)
    refine' Fk.with_bl KX G "isinstance" ?az10 fun n_isinstance => ?_
    (case az10 => k_is)
    refine' Fk.with_bl KX G "len" ?az11 fun n_len => ?_
    (case az11 => k_is)
    refine' Fk.with_bl KX G "list" ?az12 fun n_list => ?_
    (case az12 => k_is)
    refine' Fk.with_bl KX G "range" ?az13 fun n_range => ?_
    (case az13 => k_is)
    refine' Fk.with_bl KX G "set" ?az14 fun n_set => ?_
    (case az14 => k_is)
    refine' Fk.with_bl KX G "str" ?az15 fun n_str => ?_
    (case az15 => k_is)
    refine' Fk.with_bl KX G "tuple" ?az16 fun n_tuple => ?_
    (case az16 => k_is)
    refine' Fk.with_ex KX G "FrankError" ?az17 ?ez17 ?kz17 ?bz17 ?tz17 fun x_FrankError => ?_
    (case az17 => k_is); (case ez17 => k_exc); (case kz17 => k_is); (case bz17 => k_is); (case tz17 => k_is)
    refine' Fk.with_ex KX G "NoBank" ?az18 ?ez18 ?kz18 ?bz18 ?tz18 fun x_NoBank => ?_
    (case az18 => k_is); (case ez18 => k_exc); (case kz18 => k_is); (case bz18 => k_is); (case tz18 => k_is)
    refine' Fk.with_ex KX G "BadNumber" ?az19 ?ez19 ?kz19 ?bz19 ?tz19 fun x_BadNumber => ?_
    (case az19 => k_is); (case ez19 => k_exc); (case kz19 => k_is); (case bz19 => k_is); (case tz19 => k_is)
    refine' Fk.with_ex KX G "BadAmount" ?az20 ?ez20 ?kz20 ?bz20 ?tz20 fun x_BadAmount => ?_
    (case az20 => k_is); (case ez20 => k_exc); (case kz20 => k_is); (case bz20 => k_is); (case tz20 => k_is)
    refine' Fk.with_ex KX G "BadCode" ?az21 ?ez21 ?kz21 ?bz21 ?tz21 fun x_BadCode => ?_
    (case az21 => k_is); (case ez21 => k_exc); (case kz21 => k_is); (case bz21 => k_is); (case tz21 => k_is)
    refine' Fk.with_ex KX G "Short" ?az22 ?ez22 ?kz22 ?bz22 ?tz22 fun x_Short => ?_
    (case az22 => k_is); (case ez22 => k_exc); (case kz22 => k_is); (case bz22 => k_is); (case tz22 => k_is)
    refine' Fk.with_ex KX G "Down" ?az23 ?ez23 ?kz23 ?bz23 ?tz23 fun x_Down => ?_
    (case az23 => k_is); (case ez23 => k_exc); (case kz23 => k_is); (case bz23 => k_is); (case tz23 => k_is)
    refine' Fk.with_ex KX G "Up" ?az24 ?ez24 ?kz24 ?bz24 ?tz24 fun x_Up => ?_
    (case az24 => k_is); (case ez24 => k_exc); (case kz24 => k_is); (case bz24 => k_is); (case tz24 => k_is)
    refine' Fk.with_ex KX G "NoMeter" ?az25 ?ez25 ?kz25 ?bz25 ?tz25 fun x_NoMeter => ?_
    (case az25 => k_is); (case ez25 => k_exc); (case kz25 => k_is); (case bz25 => k_is); (case tz25 => k_is)
    refine' Fk.with_ei x_NoBank x_FrankError ?h1z26 ?h2z26 ?h3z26 ?h4z26 ?h5z26 ?h6z26 ?h7z26 ?h8z26 ?h9z26 ?h10z26 fun i_NoBank => ?_
    (case h1z26 => k_is); (case h2z26 => k_is); (case h3z26 => k_is); (case h4z26 => k_is); (case h5z26 => k_is); (case h6z26 => k_is); (case h7z26 => k_is); (case h8z26 => k_is); (case h9z26 => k_is); (case h10z26 => kernel_rfl)
    refine' Fk.with_ei x_BadNumber x_FrankError ?h1z27 ?h2z27 ?h3z27 ?h4z27 ?h5z27 ?h6z27 ?h7z27 ?h8z27 ?h9z27 ?h10z27 fun i_BadNumber => ?_
    (case h1z27 => k_is); (case h2z27 => k_is); (case h3z27 => k_is); (case h4z27 => k_is); (case h5z27 => k_is); (case h6z27 => k_is); (case h7z27 => k_is); (case h8z27 => k_is); (case h9z27 => k_is); (case h10z27 => kernel_rfl)
    refine' Fk.with_ei x_BadAmount x_FrankError ?h1z28 ?h2z28 ?h3z28 ?h4z28 ?h5z28 ?h6z28 ?h7z28 ?h8z28 ?h9z28 ?h10z28 fun i_BadAmount => ?_
    (case h1z28 => k_is); (case h2z28 => k_is); (case h3z28 => k_is); (case h4z28 => k_is); (case h5z28 => k_is); (case h6z28 => k_is); (case h7z28 => k_is); (case h8z28 => k_is); (case h9z28 => k_is); (case h10z28 => kernel_rfl)
    refine' Fk.with_ei x_BadCode x_FrankError ?h1z29 ?h2z29 ?h3z29 ?h4z29 ?h5z29 ?h6z29 ?h7z29 ?h8z29 ?h9z29 ?h10z29 fun i_BadCode => ?_
    (case h1z29 => k_is); (case h2z29 => k_is); (case h3z29 => k_is); (case h4z29 => k_is); (case h5z29 => k_is); (case h6z29 => k_is); (case h7z29 => k_is); (case h8z29 => k_is); (case h9z29 => k_is); (case h10z29 => kernel_rfl)
    refine' Fk.with_ei x_Short x_FrankError ?h1z30 ?h2z30 ?h3z30 ?h4z30 ?h5z30 ?h6z30 ?h7z30 ?h8z30 ?h9z30 ?h10z30 fun i_Short => ?_
    (case h1z30 => k_is); (case h2z30 => k_is); (case h3z30 => k_is); (case h4z30 => k_is); (case h5z30 => k_is); (case h6z30 => k_is); (case h7z30 => k_is); (case h8z30 => k_is); (case h9z30 => k_is); (case h10z30 => kernel_rfl)
    refine' Fk.with_ei x_Down x_FrankError ?h1z31 ?h2z31 ?h3z31 ?h4z31 ?h5z31 ?h6z31 ?h7z31 ?h8z31 ?h9z31 ?h10z31 fun i_Down => ?_
    (case h1z31 => k_is); (case h2z31 => k_is); (case h3z31 => k_is); (case h4z31 => k_is); (case h5z31 => k_is); (case h6z31 => k_is); (case h7z31 => k_is); (case h8z31 => k_is); (case h9z31 => k_is); (case h10z31 => kernel_rfl)
    refine' Fk.with_ei x_Up x_FrankError ?h1z32 ?h2z32 ?h3z32 ?h4z32 ?h5z32 ?h6z32 ?h7z32 ?h8z32 ?h9z32 ?h10z32 fun i_Up => ?_
    (case h1z32 => k_is); (case h2z32 => k_is); (case h3z32 => k_is); (case h4z32 => k_is); (case h5z32 => k_is); (case h6z32 => k_is); (case h7z32 => k_is); (case h8z32 => k_is); (case h9z32 => k_is); (case h10z32 => kernel_rfl)
    refine' Fk.with_ei x_NoMeter x_FrankError ?h1z33 ?h2z33 ?h3z33 ?h4z33 ?h5z33 ?h6z33 ?h7z33 ?h8z33 ?h9z33 ?h10z33 fun i_NoMeter => ?_
    (case h1z33 => k_is); (case h2z33 => k_is); (case h3z33 => k_is); (case h4z33 => k_is); (case h5z33 => k_is); (case h6z33 => k_is); (case h7z33 => k_is); (case h8z33 => k_is); (case h9z33 => k_is); (case h10z33 => kernel_rfl)
    refine' Fk.with_cl KX G "Meter" ?az34 ?h1z34 ?h2z34 ?h3z34 ?h4z34 ?h5z34 ?h6z34 fun cls_Meter g_Meter mk_Meter_ kc_Meter => ?_
    (case az34 => k_is); (case h1z34 => k_is); (case h2z34 => k_is); (case h3z34 => k_is); (case h4z34 => k_is); (case h5z34 => k_is); (case h6z34 => k_is)
    refine' Fk.with_na cls_Meter "own" ?az35 fun na_Meter_own => ?_
    (case az35 => k_is)
    refine' Fk.with_na cls_Meter "key" ?az36 fun na_Meter_key => ?_
    (case az36 => k_is)
    refine' Fk.with_na cls_Meter "memory" ?az37 fun na_Meter_memory => ?_
    (case az37 => k_is)
    refine' Fk.with_na cls_Meter "prints" ?az38 fun na_Meter_prints => ?_
    (case az38 => k_is)
    refine' Fk.with_na cls_Meter "awake" ?az39 fun na_Meter_awake => ?_
    (case az39 => k_is)
    refine' Fk.with_cl KX G "House" ?az40 ?h1z40 ?h2z40 ?h3z40 ?h4z40 ?h5z40 ?h6z40 fun cls_House g_House mk_House_ kc_House => ?_
    (case az40 => k_is); (case h1z40 => k_is); (case h2z40 => k_is); (case h3z40 => k_is); (case h4z40 => k_is); (case h5z40 => k_is); (case h6z40 => k_is)
    refine' Fk.with_na cls_House "key" ?az41 fun na_House_key => ?_
    (case az41 => k_is)
    refine' Fk.with_na cls_House "money" ?az42 fun na_House_money => ?_
    (case az42 => k_is)
    refine' Fk.with_na cls_House "spent" ?az43 fun na_House_spent => ?_
    (case az43 => k_is)
    refine' Fk.with_na cls_House "issues" ?az44 fun na_House_issues => ?_
    (case az44 => k_is)
    refine' Fk.with_na cls_House "taken" ?az45 fun na_House_taken => ?_
    (case az45 => k_is)
    refine' Fk.with_fn KX G "at_first" Fk.s_at_first [] ?az46 ?lz46 ?cz46 ?kz46 ?bz46 fun f_at_first => ?_
    (case az46 => k_is); (case lz46 => k_is); (case cz46 => k_is); (case kz46 => k_is); (case bz46 => exact fun _ _ _ _ _ _ us hl => match us, hl with | [], _ => rfl)
    refine' Fk.with_fn KX G "standing" Fk.s_standing ["cells"] ?az47 ?lz47 ?cz47 ?kz47 ?bz47 fun f_standing => ?_
    (case az47 => k_is); (case lz47 => k_is); (case cz47 => k_is); (case kz47 => k_is); (case bz47 => exact fun _ _ _ _ _ _ us hl => match us, hl with | [_], _ => rfl)
    refine' Fk.with_fn KX G "bank_of" Fk.s_bank_of ["cells"] ?az48 ?lz48 ?cz48 ?kz48 ?bz48 fun f_bank_of => ?_
    (case az48 => k_is); (case lz48 => k_is); (case cz48 => k_is); (case kz48 => k_is); (case bz48 => exact fun _ _ _ _ _ _ us hl => match us, hl with | [_], _ => rfl)
    refine' Fk.with_fn KX G "need_key" Fk.s_need_key ["key"] ?az49 ?lz49 ?cz49 ?kz49 ?bz49 fun f_need_key => ?_
    (case az49 => k_is); (case lz49 => k_is); (case cz49 => k_is); (case kz49 => k_is); (case bz49 => exact fun _ _ _ _ _ _ us hl => match us, hl with | [_], _ => rfl)
    refine' Fk.with_fn KX G "need_number" Fk.s_need_number ["number"] ?az50 ?lz50 ?cz50 ?kz50 ?bz50 fun f_need_number => ?_
    (case az50 => k_is); (case lz50 => k_is); (case cz50 => k_is); (case kz50 => k_is); (case bz50 => exact fun _ _ _ _ _ _ us hl => match us, hl with | [_], _ => rfl)
    refine' Fk.with_me cls_Meter "__init__" "Meter.__init__" Fk.s_Meter___init__ ["self", "number", "key"] ?az51 ?iz51 ?lz51 ?cz51 ?kz51 ?bz51 fun m_Meter___init__ => ?_
    (case az51 => k_is); (case iz51 => k_is); (case lz51 => k_is); (case cz51 => k_is); (case kz51 => k_is); (case bz51 => exact fun _ _ _ _ _ _ us hl => match us, hl with | [_, _, _], _ => rfl)
    refine' Fk.with_me cls_Meter "number" "Meter.number" Fk.s_Meter_number ["self"] ?az52 ?iz52 ?lz52 ?cz52 ?kz52 ?bz52 fun m_Meter_number => ?_
    (case az52 => k_is); (case iz52 => k_is); (case lz52 => k_is); (case cz52 => k_is); (case kz52 => k_is); (case bz52 => exact fun _ _ _ _ _ _ us hl => match us, hl with | [_], _ => rfl)
    refine' Fk.with_fn KX G "recovered" Fk.s_recovered ["number", "key", "cells", "stamps"] ?az53 ?lz53 ?cz53 ?kz53 ?bz53 fun f_recovered => ?_
    (case az53 => k_is); (case lz53 => k_is); (case cz53 => k_is); (case kz53 => k_is); (case bz53 => exact fun _ _ _ _ _ _ us hl => match us, hl with | [_, _, _, _], _ => rfl)
    refine' Fk.with_me cls_House "__init__" "House.__init__" Fk.s_House___init__ ["self", "key", "meters"] ?az54 ?iz54 ?lz54 ?cz54 ?kz54 ?bz54 fun m_House___init__ => ?_
    (case az54 => k_is); (case iz54 => k_is); (case lz54 => k_is); (case cz54 => k_is); (case kz54 => k_is); (case bz54 => exact fun _ _ _ _ _ _ us hl => match us, hl with | [_, _, _], _ => rfl)
    refine' Fk.with_fn KX G "_law_start" Fk.s__law_start ["_law_script"] ?az55 ?lz55 ?cz55 ?kz55 ?bz55 fun f__law_start => ?_
    (case az55 => k_is); (case lz55 => k_is); (case cz55 => k_is); (case kz55 => k_is); (case bz55 => exact fun _ _ _ _ _ _ us hl => match us, hl with | [_], _ => rfl)
    refine' Fk.with_fn KX G "_law_drawn" Fk.s__law_drawn ["_law_state", "_law_many"] ?az56 ?lz56 ?cz56 ?kz56 ?bz56 fun f__law_drawn => ?_
    (case az56 => k_is); (case lz56 => k_is); (case cz56 => k_is); (case kz56 => k_is); (case bz56 => exact fun _ _ _ _ _ _ us hl => match us, hl with | [_, _], _ => rfl)
    refine' Fk.with_fn KX G "_law_same" Fk.s__law_same ["_law_found", "_law_due"] ?az57 ?lz57 ?cz57 ?kz57 ?bz57 fun f__law_same => ?_
    (case az57 => k_is); (case lz57 => k_is); (case cz57 => k_is); (case kz57 => k_is); (case bz57 => exact fun _ _ _ _ _ _ us hl => match us, hl with | [_, _], _ => rfl)
    refine' Fk.with_fn KX G "_law_kind" Fk.s__law_kind ["_law_work"] ?az58 ?lz58 ?cz58 ?kz58 ?bz58 fun f__law_kind => ?_
    (case az58 => k_is); (case lz58 => k_is); (case cz58 => k_is); (case kz58 => k_is); (case bz58 => exact fun _ _ _ _ _ _ us hl => match us, hl with | [_], _ => rfl)
    refine' Fk.with_fn KX G "_law_far" Fk.s__law_far ["_law_state", "_law_most"] ?az59 ?lz59 ?cz59 ?kz59 ?bz59 fun f__law_far => ?_
    (case az59 => k_is); (case lz59 => k_is); (case cz59 => k_is); (case kz59 => k_is); (case bz59 => exact fun _ _ _ _ _ _ us hl => match us, hl with | [_, _], _ => rfl)
    refine' Fk.with_fn KX G "_law_cells" Fk.s__law_cells ["_law_state"] ?az60 ?lz60 ?cz60 ?kz60 ?bz60 fun f__law_cells => ?_
    (case az60 => k_is); (case lz60 => k_is); (case cz60 => k_is); (case kz60 => k_is); (case bz60 => exact fun _ _ _ _ _ _ us hl => match us, hl with | [_], _ => rfl)
    refine' Fk.with_fcE KX G "law" Fk.s_law ["_law_script"] ?az61 ?lz61 ?ciz61 ?kz61 ?bz61 ?hdz61 ?tz61 ?nz61 fun f_law eP hT nP hC hB => ?_
    (case az61 => k_is); (case lz61 => k_is); (case ciz61 => k_is); (case kz61 => k_is); (case bz61 => exact fun _ _ _ _ _ _ us hl => match us, hl with | [_], _ => rfl); (case tz61 => exact hTs _ (List.Mem.head _)); (case nz61 => kernel_rfl); (case hdz61 => kernel_rfl)
    exact Fk.law_at { g_WIDE := g_WIDE, g_TURN := g_TURN, g_MOST_NUMBER := g_MOST_NUMBER, g_MOST_KEY := g_MOST_KEY, g_MOST_METERS := g_MOST_METERS, n_ValueError := n_ValueError, n_bool := n_bool, n_dict := n_dict, n_int := n_int, n_isinstance := n_isinstance, n_len := n_len, n_list := n_list, n_range := n_range, n_set := n_set, n_str := n_str, n_tuple := n_tuple, E_FrankError := _, x_FrankError := x_FrankError, E_NoBank := _, x_NoBank := x_NoBank, E_BadNumber := _, x_BadNumber := x_BadNumber, E_BadAmount := _, x_BadAmount := x_BadAmount, E_BadCode := _, x_BadCode := x_BadCode, E_Short := _, x_Short := x_Short, E_Down := _, x_Down := x_Down, E_Up := _, x_Up := x_Up, E_NoMeter := _, x_NoMeter := x_NoMeter, hd_FrankError := by k_is, i_NoBank := i_NoBank, i_BadNumber := i_BadNumber, i_BadAmount := i_BadAmount, i_BadCode := i_BadCode, i_Short := i_Short, i_Down := i_Down, i_Up := i_Up, i_NoMeter := i_NoMeter, kt_NoBank_NoBank := by kernel_rfl, kt_NoBank_BadNumber := by kernel_rfl, kt_NoBank_BadAmount := by kernel_rfl, kt_NoBank_BadCode := by kernel_rfl, kt_NoBank_Short := by kernel_rfl, kt_NoBank_Down := by kernel_rfl, kt_NoBank_Up := by kernel_rfl, kt_NoBank_NoMeter := by kernel_rfl, kt_BadNumber_NoBank := by kernel_rfl, kt_BadNumber_BadNumber := by kernel_rfl, kt_BadNumber_BadAmount := by kernel_rfl, kt_BadNumber_BadCode := by kernel_rfl, kt_BadNumber_Short := by kernel_rfl, kt_BadNumber_Down := by kernel_rfl, kt_BadNumber_Up := by kernel_rfl, kt_BadNumber_NoMeter := by kernel_rfl, kt_BadAmount_NoBank := by kernel_rfl, kt_BadAmount_BadNumber := by kernel_rfl, kt_BadAmount_BadAmount := by kernel_rfl, kt_BadAmount_BadCode := by kernel_rfl, kt_BadAmount_Short := by kernel_rfl, kt_BadAmount_Down := by kernel_rfl, kt_BadAmount_Up := by kernel_rfl, kt_BadAmount_NoMeter := by kernel_rfl, kt_BadCode_NoBank := by kernel_rfl, kt_BadCode_BadNumber := by kernel_rfl, kt_BadCode_BadAmount := by kernel_rfl, kt_BadCode_BadCode := by kernel_rfl, kt_BadCode_Short := by kernel_rfl, kt_BadCode_Down := by kernel_rfl, kt_BadCode_Up := by kernel_rfl, kt_BadCode_NoMeter := by kernel_rfl, kt_Short_NoBank := by kernel_rfl, kt_Short_BadNumber := by kernel_rfl, kt_Short_BadAmount := by kernel_rfl, kt_Short_BadCode := by kernel_rfl, kt_Short_Short := by kernel_rfl, kt_Short_Down := by kernel_rfl, kt_Short_Up := by kernel_rfl, kt_Short_NoMeter := by kernel_rfl, kt_Down_NoBank := by kernel_rfl, kt_Down_BadNumber := by kernel_rfl, kt_Down_BadAmount := by kernel_rfl, kt_Down_BadCode := by kernel_rfl, kt_Down_Short := by kernel_rfl, kt_Down_Down := by kernel_rfl, kt_Down_Up := by kernel_rfl, kt_Down_NoMeter := by kernel_rfl, kt_Up_NoBank := by kernel_rfl, kt_Up_BadNumber := by kernel_rfl, kt_Up_BadAmount := by kernel_rfl, kt_Up_BadCode := by kernel_rfl, kt_Up_Short := by kernel_rfl, kt_Up_Down := by kernel_rfl, kt_Up_Up := by kernel_rfl, kt_Up_NoMeter := by kernel_rfl, kt_NoMeter_NoBank := by kernel_rfl, kt_NoMeter_BadNumber := by kernel_rfl, kt_NoMeter_BadAmount := by kernel_rfl, kt_NoMeter_BadCode := by kernel_rfl, kt_NoMeter_Short := by kernel_rfl, kt_NoMeter_Down := by kernel_rfl, kt_NoMeter_Up := by kernel_rfl, kt_NoMeter_NoMeter := by kernel_rfl, C_Meter := _, cls_Meter := cls_Meter, g_Meter := g_Meter, mk_Meter_ := mk_Meter_, kc_Meter := kc_Meter, na_Meter_own := na_Meter_own, na_Meter_key := na_Meter_key, na_Meter_memory := na_Meter_memory, na_Meter_prints := na_Meter_prints, na_Meter_awake := na_Meter_awake, C_House := _, cls_House := cls_House, g_House := g_House, mk_House_ := mk_House_, kc_House := kc_House, na_House_key := na_House_key, na_House_money := na_House_money, na_House_spent := na_House_spent, na_House_issues := na_House_issues, na_House_taken := na_House_taken, f_at_first := f_at_first, f_standing := f_standing, f_bank_of := f_bank_of, f_need_key := f_need_key, f_need_number := f_need_number, m_Meter___init__ := m_Meter___init__, m_Meter_number := m_Meter_number, f_recovered := f_recovered, m_House___init__ := m_House___init__, f__law_start := f__law_start, f__law_drawn := f__law_drawn, f__law_same := f__law_same, f__law_kind := f__law_kind, f__law_far := f__law_far, f__law_cells := f__law_cells, f_law := f_law } hmg hT nP hC hB
theorem PySem.Challenge.cw_frankmeter_k01_numbers_and_banks_holds : PySem.Challenge.rw_frankmeter_k01_numbers_and_banks.Holds := by
  exact hd_test

