import PyProof.Rows.All
import Wide.All
import OpenK.AllK
import Wide.FinOn
import PyProof.EqAt
import PyProof.EqKinds
import PyProof.TupleCall
import HandS.ForMost
import HandS.ForExc
import HandS.Wide
import HandS.IsInst
import HandS.Defaults
import HandS.SetFor
import HandS.Deep
import HandS.ExcIs
import HandS.Lambda
import HandS.EndTab
import HandS.Conv
import HandS.More
import HandS.Zip
import KE.KTupSum
import PySem.Challenge.RW_frankmeter_k11_whole_moved_from_one_to_a
set_option Elab.async false
set_option linter.all false
set_option maxRecDepth 100000
set_option maxRecDepth 100000
/-! the walker's own layer: heaps, readings as steps -/
namespace Fk
open PySem PySem.Spec PyProof.Rows L2

/-! ### heaps -/
/-- all that was tracked is as it was, but for what stands at S -/
def Mx (S : List Addr) (H H' : Hp) : Prop := ∀ a o, H a = some o → a ∉ S → H' a = some o
theorem Mx.refl {S : List Addr} {H : Hp} : Mx S H H := fun _ _ h _ => h
theorem Mx.trans {S : List Addr} {H H1 H2 : Hp} (a : Mx S H H1) (b : Mx S H1 H2) : Mx S H H2 := fun c o h n => b c o (a c o h n) n
theorem Mx.mono {S T : List Addr} {H H1 : Hp} (a : Mx S H H1) (h : ∀ x ∈ S, x ∈ T) : Mx T H H1 := fun c o e n => a c o e fun z => n (h c z)
theorem Mx.of0 {S : List Addr} {H H1 : Hp} (a : Mx [] H H1) : Mx S H H1 := fun c o e n => a c o e (by simp)
theorem Mx.new {S : List Addr} {H : Hp} {p : Addr} {o : HO} (h : H p = none) : Mx S H (upd H p o) := fun a u e _ => by
  rw [upd_ne (ne_of_none e h)]; exact e
theorem Mx.put {S : List Addr} {H : Hp} {p : Addr} {o : HO} (h : p ∈ S) : Mx S H (upd H p o) := fun a u e n => by
  rw [upd_ne (fun z => n (by rw [z]; exact h))]; exact e
theorem Mx.get {S : List Addr} {H H' : Hp} {a : Addr} {o : HO} (m : Mx S H H') (n : a ∉ S) (h : H a = some o) : H' a = some o := m a o h n
theorem Mx.get0 {H H' : Hp} {a : Addr} {o : HO} (m : Mx [] H H') (h : H a = some o) : H' a = some o := m a o h (by simp)
theorem Mx.free0 {H H' : Hp} {p : Addr} (m : Mx [] H H') (h : H' p = none) : H p = none := by
  cases e : H p with
  | none => rfl
  | some o => have := m p o e (by simp); rw [h] at this; cases this
theorem Mx.free {S : List Addr} {H H' : Hp} {p : Addr} (m : Mx S H H') (h : H' p = none) (n : p ∉ S) : H p = none := by
  cases e : H p with
  | none => rfl
  | some o => have := m p o e n; rw [h] at this; cases this
theorem Mx.rd0 {H H' : Hp} {a : Addr} {u : HO} (m : Mx [] H H') (h : Rd H a u) : Rd H' a u := by
  rcases h with h | ⟨o, h⟩
  · exact .inl (m.get0 h)
  · exact .inr ⟨o, m.get0 h⟩
theorem Mx.rd {S : List Addr} {H H' : Hp} {a : Addr} {u : HO} (m : Mx S H H') (n : a ∉ S) (h : Rd H a u) : Rd H' a u := by
  rcases h with h | ⟨o, h⟩
  · exact .inl (m.get n h)
  · exact .inr ⟨o, m.get n h⟩
theorem Mx.sqL {K : PySem.W.Frag} {S : List Addr} {H H' : Hp} {a : Addr} {xs : List V} (m : Mx S H H') (n : a ∉ S) (h : SqL K H a xs) : SqL K H' a xs := by
  rcases h with h | h
  · exact .inl (m.rd n h)
  · exact .inr h
theorem Mx.sqT {K : PySem.W.Frag} {S : List Addr} {H H' : Hp} {a : Addr} {xs : List V} (m : Mx S H H') (n : a ∉ S) (h : SqT K H a xs) : SqT K H' a xs := by
  rcases h with h | h
  · exact .inl (m.rd n h)
  · exact .inr h
theorem Mx.sqL0 {K : PySem.W.Frag} {H H' : Hp} {a : Addr} {xs : List V} (m : Mx [] H H') (h : SqL K H a xs) : SqL K H' a xs := m.sqL (by simp) h
theorem Mx.sqT0 {K : PySem.W.Frag} {H H' : Hp} {a : Addr} {xs : List V} (m : Mx [] H H') (h : SqT K H a xs) : SqT K H' a xs := m.sqT (by simp) h
/-- a tuple is never among what is written -/
theorem not_tup {H : Hp} {S : List Addr} (hS : ∀ x ∈ S, ∀ ys, H x ≠ some (.tup ys)) {a : Addr} {xs : List V} (h : H a = some (.tup xs)) : a ∉ S := fun z => hS a z xs h

/-! ### small steps of a reading -/
section
variable {K : PySem.W.Frag} {σ σ' : L2.St} {H : Hp} {Q : VK} {QB : Bool → Hp → Prop} {QA : List V → Hp → Prop} {D : Ends} {v x y : V}
theorem g_var {i : Nat} (h : σ[i]? = some (some v)) (k : Q v H) : tVar i σ H Q := ⟨v, h, k⟩
theorem g_c (k : Q v H) : tC v σ H Q := k
theorem g_op {r : R2} {ta tb : TE} (k : ta σ H fun x H1 => tb σ H1 fun y H2 => r x y H2 Q) : tOp r ta tb σ H Q := k
theorem g_un {r : V → Hp → VK → Prop} {ta : TE} (k : ta σ H fun x H1 => r x H1 Q) : tUn r ta σ H Q := k
theorem g_I0 {g : Int → Int → V} {i j : Int} (k : Q (g i j) H) : rI0 g (.int i) (.int j) H Q := ⟨i, j, rfl, rfl, k⟩
theorem g_I {C : Int → Int → Prop} {g : Int → Int → V} {i j : Int} (c : C i j) (k : Q (g i j) H) : rI C g (.int i) (.int j) H Q := ⟨i, j, rfl, rfl, c, k⟩
theorem g_U {g : Int → V} {i : Int} (k : Q (g i) H) : rU g (.int i) H Q := ⟨i, rfl, k⟩
theorem g_eq (h : scal x y = true) (k : Q (.bl (decide (x = y))) H) : rEq x y H Q := ⟨h, k⟩
theorem g_ne (h : scal x y = true) (k : Q (.bl (!decide (x = y))) H) : rNe x y H Q := ⟨h, k⟩
/-- a truth value goes on as a Bool -/
def kBl (Q : Bool → Hp → Prop) : VK := fun x H' => ∃ k, x = .bl k ∧ Q k H'
theorem g_bl {b : Bool} (k : QB b H) : kBl QB (.bl b) H := ⟨b, rfl, k⟩
theorem g_test {t : TE} (k : t σ H (kBl QB)) : tTest t σ H QB := k
theorem g_tB {t : TE} (k : t σ H (kBl QB)) : tB t σ H QB := k
theorem g_not {t : TT} (k : t σ H fun c H1 => QB (!c) H1) : tNot t σ H QB := k
theorem g_and {t u : TT} (k : t σ H fun c H1 => if c = true then u σ H1 QB else QB false H1) : tAnd t u σ H QB := k
theorem g_or {t u : TT} (k : t σ H fun c H1 => if c = true then QB true H1 else u σ H1 QB) : tOr t u σ H QB := k
/-- a value that is a truth value, then one of two ways -/
def kIf (F : Bool → Hp → Prop) : VK := fun x H1 => ∃ c, x = .bl c ∧ F c H1
theorem g_kIf {F : Bool → Hp → Prop} {b : Bool} (k : F b H) : kIf F (.bl b) H := ⟨b, rfl, k⟩
theorem g_andV {ta tb : TE} (k : ta σ H (kIf fun c H1 => if c = true then tb σ H1 Q else Q (.bl false) H1)) : tAndV ta tb σ H Q := k
theorem g_orV {ta tb : TE} (k : ta σ H (kIf fun c H1 => if c = true then Q (.bl true) H1 else tb σ H1 Q)) : tOrV ta tb σ H Q := k
theorem g_notV {ta : TE} (k : ta σ H (kIf fun c H1 => Q (.bl (!c)) H1)) : tNotV ta σ H Q := k
theorem g_isN {ta : TE} (k : ta σ H fun x H1 => Q (.bl (decide (x = .non))) H1) : tIsN ta σ H Q := k
theorem g_notN {ta : TE} (k : ta σ H fun x H1 => Q (.bl (!decide (x = .non))) H1) : tNotN ta σ H Q := k
theorem g_ifE {t : TT} {ta tb : TE} (k : t σ H fun c H1 => if c = true then ta σ H1 Q else tb σ H1 Q) : tIf t ta tb σ H Q := k
theorem g_ite {b : Bool} {A B : Prop} (h1 : b = true → A) (h2 : b = false → B) : if b = true then A else B := by
  cases b with
  | true => rw [if_pos rfl]; exact h1 rfl
  | false => rw [if_neg Bool.false_ne_true]; exact h2 rfl
theorem g_yes {b : Bool} {A B : Prop} (e : b = true) (h : A) : if b = true then A else B := by rw [if_pos e]; exact h
theorem g_no {b : Bool} {A B : Prop} (e : b = false) (h : B) : if b = true then A else B := by rw [e, if_neg Bool.false_ne_true]; exact h
/-- a chain a < b < c -/
def kCh (r' : R2) (tc : TE) (σ : L2.St) (y : V) (Q : VK) : VK := fun z H3 => ∃ k, z = .bl k ∧ (if k = true then tc σ H3 fun w' H4 => r' y w' H4 Q else Q (.bl false) H3)
theorem g_kCh {r' : R2} {tc : TE} {b : Bool} (k : if b = true then tc σ H fun w' H4 => r' y w' H4 Q else Q (.bl false) H) : kCh r' tc σ y Q (.bl b) H := ⟨b, rfl, k⟩
theorem g_chain {r r' : R2} {ta tb tc : TE} (k : ta σ H fun x H1 => tb σ H1 fun y H2 => r x y H2 (kCh r' tc σ y Q)) : tChain r r' ta tb tc σ H Q := k
/-! arguments, displays -/
theorem g_nil (k : QA [] H) : tNil σ H QA := k
theorem g_cons {ta : TE} {tr : TA} (k : ta σ H fun x H1 => tr σ H1 fun xs H2 => QA (x :: xs) H2) : tCons ta tr σ H QA := k
theorem lineS {n : Nat} (h : n ≤ 100000) : n ≤ sizeLine := Nat.le_trans h (by rw [sizeLine_eq]; decide)
theorem lineL {n : Nat} (h : n < 100000) : n < sizeLine := Nat.lt_of_lt_of_le h (by rw [sizeLine_eq]; decide)
/-- a new object of content o -/
def kNew (o : List V → HO) (Q : VK) : List V → Hp → Prop := fun xs H1 => xs.length ≤ sizeLine ∧ ∀ p, H1 p = none → Q (.ref p) (upd H1 p (o xs))
theorem g_tup {t : TA} (k : t σ H (kNew .tup Q)) : tTup t σ H Q := k
theorem g_lst {t : TA} (k : t σ H (kNew .lst Q)) : tLst t σ H Q := k
theorem g_kNew {o : List V → HO} {xs : List V} (hl : xs.length ≤ 100000) (k : ∀ p H', H p = none → Mx [] H H' → H' p = some (o xs) → Q (.ref p) H') : kNew o Q xs H :=
  ⟨lineS hl, fun p hp => k p _ hp (.new hp) upd_same⟩
/-- at any free place -/
theorem g_new {o : HO} {F : Addr → Hp → Prop} (k : ∀ p H', H p = none → Mx [] H H' → H' p = some o → F p H') : ∀ p, H p = none → F p (upd H p o) := fun p hp => k p _ hp (.new hp) upd_same
/-! subscripts -/
theorem g_ixL {p : Addr} {xs : List V} {i : Int} (h : SqL K H p xs) (ha : atI xs i = some v) (k : Q v H) : rIxL K (.ref p) (.int i) H Q := ⟨p, xs, i, v, rfl, rfl, h, ha, k⟩
theorem g_ixT {p : Addr} {xs : List V} {i : Int} (h : SqT K H p xs) (ha : atI xs i = some v) (k : Q v H) : rIxT K (.ref p) (.int i) H Q := ⟨p, xs, i, v, rfl, rfl, h, ha, k⟩
theorem g_slice {r : V → Option Int → Option Int → Hp → VK → Prop} {te : TE} {tl th : TO} (k : te σ H fun x H1 => tl σ H1 fun l H2 => th σ H2 fun u H3 => r x l u H3 Q) : tSl r te tl th σ H Q := k
theorem g_noPart {QO : Option Int → Hp → Prop} (k : QO none H) : tNoPart σ H QO := k
def kPart (QO : Option Int → Hp → Prop) : VK := fun x H1 => ∃ i, x = .int i ∧ QO (some i) H1
theorem g_kPart {QO : Option Int → Hp → Prop} {i : Int} (k : QO (some i) H) : kPart QO (.int i) H := ⟨i, rfl, k⟩
theorem g_part {t : TE} {QO : Option Int → Hp → Prop} (k : t σ H (kPart QO)) : tPart t σ H QO := k
theorem g_slL {a : Addr} {xs : List V} {lo hi : Option Int} (h : SqL K H a xs) (k : ∀ p H', H p = none → Mx [] H H' → H' p = some (.lst (cutV xs lo hi)) → Q (.ref p) H') : rSlL K (.ref a) lo hi H Q :=
  ⟨a, xs, rfl, h, fun p hp => k p _ hp (.new hp) upd_same⟩
theorem g_slT {a : Addr} {xs : List V} {lo hi : Option Int} (h : SqT K H a xs) (hn : ¬ (HT.sIx xs.length 0 lo = 0 ∧ HT.sIx xs.length xs.length hi = xs.length)) (k : ∀ p H', H p = none → Mx [] H H' → H' p = some (.tup (cutV xs lo hi)) → Q (.ref p) H') : rSlT K (.ref a) lo hi H Q :=
  ⟨a, xs, rfl, h, hn, fun p hp => k p _ hp (.new hp) upd_same⟩
theorem g_cat {l b : Addr} {xs zs : List V} (h1 : H l = some (.lst xs)) (h2 : H b = some (.lst zs)) (hl : xs.length + zs.length ≤ 100000) (k : ∀ p H', H p = none → Mx [] H H' → H' p = some (.lst (xs ++ zs)) → Q (.ref p) H') : rCat (.ref l) (.ref b) H Q :=
  ⟨l, b, xs, zs, rfl, rfl, h1, h2, lineS hl, fun p hp => k p _ hp (.new hp) upd_same⟩
theorem g_rep {l : Addr} {n : Int} {xs : List V} (h1 : H l = some (.lst xs)) (h2 : 0 ≤ n) (h3 : n ≤ 1000) (hl : xs.length * n.toNat ≤ 100000) (k : ∀ p H', H p = none → Mx [] H H' → H' p = some (.lst (List.replicate n.toNat xs).flatten) → Q (.ref p) H') : rRep (.ref l) (.int n) H Q :=
  ⟨l, n, xs, rfl, rfl, h1, by omega, by omega, lineS hl, fun p hp => k p _ hp (.new hp) upd_same⟩
theorem g_setL {p : Addr} {xs : List V} {i : Int} {j : Nat} {QH : Hp → Prop} (h : H p = some (.lst xs)) (hi : ixN xs.length i = some j) (k : ∀ H', Mx [p] H H' → H' p = some (.lst (xs.set j v)) → QH H') : rSetL (.ref p) (.int i) v H QH :=
  ⟨p, xs, i, j, rfl, rfl, h, hi, k _ (.put (by simp)) upd_same⟩
/-! calls of built-ins -/
theorem g_CB {r : List V → Hp → VK → Prop} {t : TA} (k : t σ H fun vs H1 => r vs H1 Q) : tCB r t σ H Q := k
def rLen (K : PySem.W.Frag) : List V → Hp → VK → Prop := fun xs H Q => ∃ p ys, xs = [.ref p] ∧ (SqL K H p ys ∨ SqT K H p ys) ∧ Q (.int ys.length) H
theorem c_len {X : Cx} : CallR X (.builtin "len") (rLen X.K) := call_len_seq
theorem g_lenL {p : Addr} {ys : List V} (h : SqL K H p ys) (k : Q (.int (ys.length : Int)) H) : rLen K [.ref p] H Q := ⟨p, ys, rfl, .inl h, k⟩
theorem g_lenT {p : Addr} {ys : List V} (h : SqT K H p ys) (k : Q (.int (ys.length : Int)) H) : rLen K [.ref p] H Q := ⟨p, ys, rfl, .inr h, k⟩
def rListOf (K : PySem.W.Frag) : List V → Hp → VK → Prop := fun xs H Q => ∃ p ys, xs = [.ref p] ∧ (SqL K H p ys ∨ SqT K H p ys) ∧ ∀ l, H l = none → Q (.ref l) (upd H l (.lst ys))
theorem c_list {X : Cx} : CallR X (.type "list") (rListOf X.K) := call_list_of
theorem g_listL {p : Addr} {ys : List V} (h : SqL K H p ys) (k : ∀ l H', H l = none → Mx [] H H' → H' l = some (.lst ys) → Q (.ref l) H') : rListOf K [.ref p] H Q :=
  ⟨p, ys, rfl, .inl h, fun l hl => k l _ hl (.new hl) upd_same⟩
def rTupOf (K : PySem.W.Frag) : List V → Hp → VK → Prop := fun xs H Q => ∃ p ys, xs = [.ref p] ∧ ((SqL K H p ys ∧ ∀ l, H l = none → Q (.ref l) (upd H l (.tup ys))) ∨ (SqT K H p ys ∧ Q (.ref p) H))
theorem c_tuple {X : Cx} : CallR X (.type "tuple") (rTupOf X.K) := call_tuple_of
theorem g_tupleL {p : Addr} {ys : List V} (h : SqL K H p ys) (k : ∀ l H', H l = none → Mx [] H H' → H' l = some (.tup ys) → Q (.ref l) H') : rTupOf K [.ref p] H Q :=
  ⟨p, ys, rfl, .inl ⟨h, fun l hl => k l _ hl (.new hl) upd_same⟩⟩
def rMax2 : List V → Hp → VK → Prop := fun xs H Q => ∃ i j, xs = [.int i, .int j] ∧ Q (.int (if j > i then j else i)) H
theorem c_max {X : Cx} (hc : X.calm = true) : CallR X (.builtin "max") rMax2 := call_max2 hc
theorem g_max {i j : Int} (k : Q (.int (if j > i then j else i)) H) : rMax2 [.int i, .int j] H Q := ⟨i, j, rfl, k⟩
def rMin2 : List V → Hp → VK → Prop := fun xs H Q => ∃ i j, xs = [.int i, .int j] ∧ Q (.int (if j < i then j else i)) H
theorem c_min {X : Cx} (hc : X.calm = true) : CallR X (.builtin "min") rMin2 := call_min2 hc
theorem g_min {i j : Int} (k : Q (.int (if j < i then j else i)) H) : rMin2 [.int i, .int j] H Q := ⟨i, j, rfl, k⟩
def rInt1 : List V → Hp → VK → Prop := fun xs H Q => (∃ i, xs = [.int i] ∧ Q (.int i) H) ∨ ∃ k, xs = [.bl k] ∧ Q (.int (if k then 1 else 0)) H
theorem c_int {X : Cx} : CallR X (.type "int") rInt1 := call_int1
theorem g_intB {b : Bool} (k : Q (.int (if b then 1 else 0)) H) : rInt1 [.bl b] H Q := .inr ⟨b, rfl, k⟩
/-! fields -/
def kFld (K : PySem.W.Frag) (f : Str) (Q : VK) : VK := fun x H1 => ∃ a C dx fs v, x = .ref a ∧ H1 a = some (.ins C dx fs) ∧ Cls K C ∧ NoAttr K C f ∧ fs.lookup f = some v ∧ Q v H1
theorem g_fld {ta : TE} {f : Str} (k : ta σ H (kFld K f Q)) : tFld K ta f σ H Q := k
theorem g_kFld {f : Str} {a C dx : Addr} {fs : List (Str × V)} (h : H a = some (.ins C dx fs)) (c : Cls K C) (n : NoAttr K C f) (l : fs.lookup f = some v) (k : Q v H) : kFld K f Q (.ref a) H := ⟨a, C, dx, fs, v, rfl, h, c, n, l, k⟩
def kPut (K : PySem.W.Frag) (f : Str) (y : V) (N : Hp → Prop) : VK := fun x H2 => ∃ a C dx fs, x = .ref a ∧ H2 a = some (.ins C dx fs) ∧ Cls K C ∧ NoAttr K C f ∧ fs.length < 1000 ∧ N (upd H2 a (.ins C dx (putF f y fs)))
theorem g_put {ta tv : TE} {f : Str} (k : tv σ H fun y H1 => ta σ H1 (kPut K f y fun H3 => D.nx σ H3)) : sFld K ta tv f D σ H := k
theorem g_kPut {f : Str} {a C dx : Addr} {fs fs' : List (Str × V)} {N : Hp → Prop} (h : H a = some (.ins C dx fs)) (c : Cls K C) (n : NoAttr K C f) (e : putF f y fs = fs') (hl : fs.length < 1000)
    (k : ∀ H', Mx [a] H H' → H' a = some (.ins C dx fs') → N H') : kPut K f y N (.ref a) H := ⟨a, C, dx, fs, rfl, h, c, n, hl, by rw [e]; exact k _ (.put (by simp)) upd_same⟩
/-! dicts -/
def kDGet (x : V) (Q : VK) : VK := fun y H2 => ∃ a v, x = .ref a ∧ DGet H2 a y (some v) ∧ Q v H2
theorem g_dget {td ty : TE} (k : td σ H fun x H1 => ty σ H1 (kDGet x Q)) : tDGet td ty σ H Q := k
theorem g_kDGetS {a : Addr} {z : Str} {kvs : List (Key × V)} (h : H a = some (.dK kvs)) (l : valV kvs (Sum.inr z) = some v) (k : Q v H) : kDGet (.ref a) Q (.str z) H := ⟨a, v, rfl, l ▸ DGet.k (k := Sum.inr z) h, k⟩
theorem g_kDGetI {a : Addr} {z : Int} {kvs : List (Key × V)} (h : H a = some (.dK kvs)) (l : valV kvs (Sum.inl z) = some v) (k : Q v H) : kDGet (.ref a) Q (.int z) H := ⟨a, v, rfl, l ▸ DGet.k (k := Sum.inl z) h, k⟩
theorem g_kDGetIr {a : Addr} {z : Int} {kvs : List (Key × V)} (h : Rd H a (.dK kvs)) (l : valV kvs (Sum.inl z) = some v) (k : Q v H) : kDGet (.ref a) Q (.int z) H := ⟨a, v, rfl, l ▸ .inl ⟨kvs, Sum.inl z, h, rfl, rfl⟩, k⟩
/-! statements -/
theorem g_seq {t u : TS} (k : t { D with nx := u D } σ H) : tSeq t u D σ H := k
theorem g_next (k : D.nx σ H) : tNext D σ H := k
theorem g_asg {te : TE} {g : TG} (k : te σ H fun x H1 => g x σ H1 D.nx) : tAsg te g D σ H := k
theorem g_name {i : Nat} {QS : L2.St → Hp → Prop} (k : QS (σ.set i (some v)) H) : gName i v σ H QS := k
theorem g_drop {te : TE} (k : te σ H fun _ H1 => D.nx σ H1) : tDrop te D σ H := k
theorem g_ret {te : TE} (k : te σ H D.rt) : tRet te D σ H := k
theorem g_retN (k : D.rt .non H) : tRetN D σ H := k
theorem g_if {c : TT} {t u : TS} (k : c σ H fun b H1 => if b = true then t D σ H1 else u D σ H1) : tIfS c t u D σ H := k
theorem g_sub {to ti : TE} {t : TSet} {QS : L2.St → Hp → Prop} (k : to σ H fun o H1 => ti σ H1 fun i H2 => t o i v H2 fun H3 => QS σ H3) : gSub to ti t v σ H QS := k
theorem g_gtup {n : Nat} {t : TGs} {a : Addr} {xs : List V} {QS : L2.St → Hp → Prop} (h : SqT K H a xs) (hl : xs.length = n) (k : t xs σ H QS) : gTup K n t (.ref a) σ H QS := ⟨a, xs, rfl, h, hl, k⟩
theorem g_gcons {t : TG} {u : TGs} {r : List V} {QS : L2.St → Hp → Prop} (k : t v σ H fun σ' H' => u r σ' H' QS) : gCons t u (v :: r) σ H QS := ⟨v, r, rfl, k⟩
theorem g_gnil {QS : L2.St → Hp → Prop} (k : QS σ H) : gNil [] σ H QS := ⟨rfl, k⟩
/-! calls of the text's own defs -/
theorem g_call {sp : Sp} {dvs : List V} {E : XK} {t : TA} (k : t σ H fun vs H1 => sp (vs ++ dvs) H1 Q E) : tCall sp dvs E t σ H Q := k
def kMeth (C : Addr) (m : Str) (sp : Sp) (dvs : List V) (E : XK) (t : TA) (σ : L2.St) (Q : VK) : VK := fun x H1 => ∃ a dx fs, x = .ref a ∧ H1 a = some (.ins C dx fs) ∧ fs.lookup m = none ∧ t σ H1 fun vs H2 => sp (x :: (vs ++ dvs)) H2 Q E
theorem g_meth {C : Addr} {m : Str} {sp : Sp} {dvs : List V} {E : XK} {ta : TE} {t : TA} (k : ta σ H (kMeth C m sp dvs E t σ Q)) : tMeth C m sp dvs E ta t σ H Q := k
theorem g_kMeth {C a dx : Addr} {m : Str} {sp : Sp} {dvs : List V} {E : XK} {t : TA} {fs : List (Str × V)} (h : H a = some (.ins C dx fs)) (l : fs.lookup m = none) (k : t σ H fun vs H2 => sp (.ref a :: (vs ++ dvs)) H2 Q E) : kMeth C m sp dvs E t σ Q (.ref a) H := ⟨a, dx, fs, rfl, h, l, k⟩
/-! methods of built-in types -/
def kBM (K : PySem.W.Frag) (T : String) (r : V → List V → Hp → VK → Prop) (t : TA) (σ : L2.St) (Q : VK) : VK := fun x H1 => tyV K T x H1 ∧ t σ H1 fun xs H2 => r x xs H2 Q
theorem g_bm {T : String} {r : V → List V → Hp → VK → Prop} {to : TE} {t : TA} (k : to σ H (kBM K T r t σ Q)) : tBM K T r to t σ H Q := k
theorem g_kBM {r : V → List V → Hp → VK → Prop} {t : TA} {p : Addr} {xs : List V} (h : SqL K H p xs) (k : t σ H fun xs H2 => r (.ref p) xs H2 Q) : kBM K "list" r t σ Q (.ref p) H := ⟨.inl ⟨rfl, xs, h⟩, k⟩
def kBM0 (K : PySem.W.Frag) (T : String) (r : V → List V → Hp → VK → Prop) (Q : VK) : VK := fun x H1 => tyV K T x H1 ∧ r x [] H1 Q
theorem g_bm0 {T : String} {r : V → List V → Hp → VK → Prop} {to : TE} (k : to σ H (kBM0 K T r Q)) : tBM0 K T r to σ H Q := k
theorem g_kBM0 {r : V → List V → Hp → VK → Prop} {p : Addr} {xs : List V} (h : SqL K H p xs) (k : r (.ref p) [] H Q) : kBM0 K "list" r Q (.ref p) H := ⟨.inl ⟨rfl, xs, h⟩, k⟩
theorem g_append {l : Addr} {xs : List V} (h : H l = some (.lst xs)) (hl : xs.length < 100000) (k : ∀ H', Mx [l] H H' → H' l = some (.lst (xs ++ [y])) → Q .non H') : rAppend (.ref l) [y] H Q :=
  ⟨l, xs, y, rfl, rfl, h, lineL hl, k _ (.put (by simp)) upd_same⟩
theorem g_reverse {l : Addr} {xs : List V} (h : H l = some (.lst xs)) (k : ∀ H', Mx [l] H H' → H' l = some (.lst xs.reverse) → Q .non H') : rReverse (.ref l) [] H Q := ⟨l, xs, rfl, rfl, h, k _ (.put (by simp)) upd_same⟩
theorem g_clear {l : Addr} {xs : List V} (h : H l = some (.lst xs)) (k : ∀ H', Mx [l] H H' → H' l = some (.lst []) → Q .non H') : rClear (.ref l) [] H Q := ⟨l, xs, rfl, rfl, h, k _ (.put (by simp)) upd_same⟩
end
end Fk

set_option maxRecDepth 100000
namespace Fk
open PySem PySem.Spec PyProof.Rows L2
/-! ### what the text says of a def, a method, an error class -/
/-- a def of the module, called by its name -/
structure Cl (P : Program) (w : World) (K : PySem.W.Frag) (mg : Str → Option Value) (base : Heap) (k : Nat) (x : Str) (sp : Sp) (dvs : List V) : Prop where
  ex : ∃ (f : Addr) (fd : FuncData) (ps : List Str) (ds : List Value), FnOk P w K mg base (L2.CX P w) k f fd ps sp ∧ mg x = some (.ref f) ∧ PySem.W.keepIn K (.ref f) = true ∧ Binds K fd ps ds ∧ Vals dvs ds
/-- a method of the class at C -/
structure Me (P : Program) (w : World) (K : PySem.W.Frag) (mg : Str → Option Value) (base : Heap) (k : Nat) (C : Addr) (m : Str) (sp : Sp) (dvs : List V) : Prop where
  ex : ∃ (f : Addr) (fd : FuncData) (ps : List Str) (ds : List Value), Cls K C ∧ Meth K C m f ∧ FnOk P w K mg base (L2.CX P w) k f fd ps sp ∧ Binds K fd ps ds ∧ Vals dvs ds
/-- a class made by its name -/
structure Ma (P : Program) (w : World) (K : PySem.W.Frag) (mg : Str → Option Value) (base : Heap) (k : Nat) (x : Str) (C : Addr) (sp : Sp) (dvs : List V) : Prop where
  ex : ∃ (f : Addr) (fd : FuncData) (ps : List Str) (ds : List Value), Mk K C f ∧ FnOk P w K mg base (L2.CX P w) k f fd ps sp ∧ mg x = some (.ref C) ∧ Binds K fd ps ds ∧ Vals dvs ds
section
variable {X : Cx} {k j : Nat} {C : Addr} {x m : Str} {sp : Sp} {dvs : List V} {E : XK} {p pos apos : Pos} {e o : Expr} {es : List Expr} {ta : TE} {t : TA}
theorem q_call (c : Cl X.prog X.w X.K X.mg X.base k x sp dvs) (hr : Room j X.A) (hk : k ≤ j) (hg : Gl X x) (hx : Passes (L2.CX X.prog X.w) X E) (ha : PA X (e :: es) t)
    (hdb : (x == ("__debug__" : Str)) = false := by decide) (he : starEach (e :: es) X.env = (false, eval e X.env) :: starEach es X.env := by rfl) (hpl : (backTo pos (starEach es X.env)).any (·.1) = false := by rfl) :
    PE X (.Call (.Name x p) (e :: es) [] pos) (tCall sp dvs E t) := by
  obtain ⟨f, fd, ps, ds, F, hm, hk', hb, hd⟩ := c.ex
  exact pe_call F (hr.mono hk) hg hm hk' hb hd hx ha hdb he hpl
theorem q_call0 (c : Cl X.prog X.w X.K X.mg X.base k x sp dvs) (hr : Room j X.A) (hk : k ≤ j) (hg : Gl X x) (hx : Passes (L2.CX X.prog X.w) X E)
    (hdb : (x == ("__debug__" : Str)) = false := by decide) : PE X (.Call (.Name x p) [] [] pos) (tCall sp dvs E tNil) := by
  obtain ⟨f, fd, ps, ds, F, hm, hk', hb, hd⟩ := c.ex
  exact pe_call0 F (hr.mono hk) hg hm hk' hb hd hx hdb
theorem q_make (c : Ma X.prog X.w X.K X.mg X.base k x C sp dvs) (hr : Room j X.A) (hk : k + 1 ≤ j) (hg : Gl X x) (hx : Passes (L2.CX X.prog X.w) X E) (ha : PA X (e :: es) t)
    (hdb : (x == ("__debug__" : Str)) = false := by decide) (he : starEach (e :: es) X.env = (false, eval e X.env) :: starEach es X.env := by rfl) (hpl : (backTo pos (starEach es X.env)).any (·.1) = false := by rfl) :
    PE X (.Call (.Name x p) (e :: es) [] pos) (tMake C sp dvs E t) := by
  obtain ⟨f, fd, ps, ds, M, F, hm, hb, hd⟩ := c.ex
  exact pe_make M F (hr.mono hk) hg hm hb hd hx ha hdb he hpl
theorem q_meth {pl : Sem Bool} (c : Me X.prog X.w X.K X.mg X.base k C m sp dvs) (hr : Room j X.A) (hk : k ≤ j) (he : PE X o ta) (hx : Passes (L2.CX X.prog X.w) X E) (ha : PA X (e :: es) t)
    (hst : starEach (e :: es) X.env = (false, eval e X.env) :: starEach es X.env := by rfl) (hpl : (backTo pos (starEach es X.env)).any (·.1) = false := by rfl)
    (ht : eval (.Call (.Attribute o m apos) (e :: es) [] pos) X.env = (do
      let ov ← eval o X.env
      standAt apos.atName
      let (f, first) ← holding [ov] (getMethod ov m pl)
      callWith pos f first (backTo pos (starEach (e :: es) X.env)) (backToKw pos (keywordEach [] X.env))) := by rfl) :
    PE X (.Call (.Attribute o m apos) (e :: es) [] pos) (tMeth C m sp dvs E ta t) := by
  obtain ⟨f, fd, ps, ds, cl, hm, F, hb, hd⟩ := c.ex
  exact pe_meth he cl hm F (hr.mono hk) hb hd hx ha hst hpl ht
theorem q_meth0 {pl : Sem Bool} (c : Me X.prog X.w X.K X.mg X.base k C m sp dvs) (hr : Room j X.A) (hk : k ≤ j) (he : PE X o ta) (hx : Passes (L2.CX X.prog X.w) X E)
    (ht : eval (.Call (.Attribute o m apos) [] [] pos) X.env = (do
      let ov ← eval o X.env
      standAt apos.atName
      let (f, first) ← holding [ov] (getMethod ov m pl)
      callWith pos f first (backTo pos (starEach [] X.env)) (backToKw pos (keywordEach [] X.env))) := by rfl) :
    PE X (.Call (.Attribute o m apos) [] [] pos) (tMeth C m sp dvs E ta tNil) := by
  obtain ⟨f, fd, ps, ds, cl, hm, F, hb, hd⟩ := c.ex
  exact pe_meth0 he cl hm F (hr.mono hk) hb hd hx ht
end
/-- an own error class over ValueError without an __init__ -/
structure ExF (K : PySem.W.Frag) (mg : Str → Option Value) (x : Str) (C : Addr) : Prop where
  g : mg x = some (.ref C)
  xq : PySem.W.excIn K C [.type "ValueError", .type "Exception", .type "BaseException", .type "object"] "ValueError.__new__" = true
  k : PySem.W.keepIn K (.ref C) = true
  b : PySem.W.subIn K (.ref C) (.type "BaseException") = some true
  t : PySem.W.typeIn K (.ref C) = some (.type "type")
def tRaiseC (C : Addr) (W : WX) : TS := fun _ σ H => W (.ref C) none σ H
section
variable {X : Cx} {C : Addr} {W : WX} {x m : Str} {j : Nat} {p p2 pos pos2 : Pos}
theorem q_raise (hc : X.calm = true) (tk : Takes X W) (F : ExF X.K X.mg x C) (hg : Gl X x) (hdb : (x == ("__debug__" : Str)) = false := by decide) : PS X (.Raise (some (.Call (.Name x p) [.Constant (.str m) j p2] [] pos)) none pos2) (tRaiseC C W) :=
  ps_raise hc tk (pmk_own PySem.F.excBase_ValueError F.xq F.g F.k (raises_own F.b F.t) hg hdb)
end
theorem g_raise {C : Addr} {W : WX} {D : Ends} {σ : L2.St} {H : Hp} (k : W (.ref C) none σ H) : tRaiseC C W D σ H := k
/-- the text's facts of a def of the module -/
structure FnF (K : PySem.W.Frag) (mg : Str → Option Value) (x : Str) (st : Stmt) (ps : List Str) where
  a : Addr
  d : FuncData
  F : Fun K x x st a d
  g : mg x = some (.ref a)
  b : Binds K d ps []
/-- .. of a method of the class at C -/
structure MeF (K : PySem.W.Frag) (C : Addr) (m qual : Str) (st : Stmt) (ps : List Str) where
  a : Addr
  d : FuncData
  F : Fun K m qual st a d
  m : Meth K C m a
  b : Binds K d ps []
/-- .. of a method whose last parameter may be left out (None then) -/
structure MdF (K : PySem.W.Frag) (C : Addr) (m qual : Str) (st : Stmt) (ps : List Str) where
  a : Addr
  d : FuncData
  F : FunD K m qual (defArgs st) (defBody st) (defScope st) [.non] [] a d
  m : Meth K C m a
  b : Binds K d ps []
  b1 : ∃ ds, Vals [.non] ds ∧ Binds K d ps ds
section
variable {P : Program} {w : World} {K : PySem.W.Frag} {mg : Str → Option Value} {base : Heap} {x m qual : Str} {st : Stmt} {ps N : List Str} {C : Addr} {k : Nat} {sp : Sp}
theorem FnF.cl (F : FnF K mg x st ps) (S : FnScope N ps (defScope st)) (len : ∀ vs H Q E, sp vs H Q E → vs.length = ps.length)
    (hbody : ∀ (cdv : Value) (A : Around) (outer : List Env) (s : Shared) (H : Hp) (vs : List V) (Q : VK) (E : XK), Room k (A.deeper (envOfC x (defScope st) s.heap.objs.size F.a cdv)) → sp vs H Q E →
      ∃ t, PSs (cxOf (L2.CX P w) P w K mg base N x (defScope st) F.a cdv A outer s H E) (defBody st) t ∧ t { nx := fun _ H' => Q .non H', rt := Q } (start N vs) H) : Cl P w K mg base (k + 1) x sp [] :=
  ⟨F.a, F.d, ps, [], F.F.okX S len hbody, F.g, F.F.kp, F.b, .nil⟩
theorem MeF.me (F : MeF K C m qual st ps) (c : Cls K C) (S : FnScope N ps (defScope st)) (len : ∀ vs H Q E, sp vs H Q E → vs.length = ps.length)
    (hbody : ∀ (cdv : Value) (A : Around) (outer : List Env) (s : Shared) (H : Hp) (vs : List V) (Q : VK) (E : XK), Room k (A.deeper (envOfC qual (defScope st) s.heap.objs.size F.a cdv)) → sp vs H Q E →
      ∃ t, PSs (cxOf (L2.CX P w) P w K mg base N qual (defScope st) F.a cdv A outer s H E) (defBody st) t ∧ t { nx := fun _ H' => Q .non H', rt := Q } (start N vs) H) : Me P w K mg base (k + 1) C m sp [] :=
  ⟨F.a, F.d, ps, [], c, F.m, F.F.okX S len hbody, F.b, .nil⟩
theorem MdF.ok (F : MdF K C m qual st ps) (S : FnScope N ps (defScope st)) (len : ∀ vs H Q E, sp vs H Q E → vs.length = ps.length)
    (hbody : ∀ (cdv : Value) (A : Around) (outer : List Env) (s : Shared) (H : Hp) (vs : List V) (Q : VK) (E : XK), Room k (A.deeper (envOfC qual (defScope st) s.heap.objs.size F.a cdv)) → sp vs H Q E →
      ∃ t, PSs (cxOf (L2.CX P w) P w K mg base N qual (defScope st) F.a cdv A outer s H E) (defBody st) t ∧ t { nx := fun _ H' => Q .non H', rt := Q } (start N vs) H) : FnOk P w K mg base (L2.CX P w) (k + 1) F.a F.d ps sp :=
  F.F.ok S len hbody
theorem MdF.me (F : MdF K C m qual st ps) (c : Cls K C) (h : FnOk P w K mg base (L2.CX P w) k F.a F.d ps sp) : Me P w K mg base k C m sp [] := ⟨F.a, F.d, ps, [], c, F.m, h, F.b, .nil⟩
theorem MdF.me1 (F : MdF K C m qual st ps) (c : Cls K C) (h : FnOk P w K mg base (L2.CX P w) k F.a F.d ps sp) : Me P w K mg base k C m sp [.non] := by
  obtain ⟨ds, v, b⟩ := F.b1
  exact ⟨F.a, F.d, ps, ds, c, F.m, h, b, v⟩
end
end Fk

set_option maxRecDepth 100000
namespace Fk
open PySem PySem.Spec PyProof.Rows L2
/-! ### constants of the module -/
theorem q_const {X : Cx} {x : Str} {i : Int} {pos : Pos} (h : ∃ t, X.mg x = some (.int i t)) (hg : Gl X x) (hd : (x == ("__debug__" : Str)) = false := by decide) : PE X (.Name x pos) (tC (.int i)) := by
  obtain ⟨t, h⟩ := h
  exact pe_glob hg h ⟨t, rfl⟩ hd
/-! ### rules with the written part named -/
section
variable {X : Cx} (K : PySem.W.Frag)
theorem ixL (e : X.K = K := by rfl) : IxR X (rIxL K) := e ▸ ix_list
theorem ixT (e : X.K = K := by rfl) : IxR X (rIxT K) := e ▸ ix_tup
theorem slL (e : X.K = K := by rfl) : SlR X (rSlL K) := e ▸ sl_list
theorem slT (e : X.K = K := by rfl) : SlR X (rSlT K) := e ▸ sl_tup
theorem opIn (e : X.K = K := by rfl) : OpR X (compareOp .In) (rIn K false) := e ▸ op_in_seq
theorem opNin (e : X.K = K := by rfl) : OpR X (compareOp .NotIn) (rIn K true) := e ▸ op_notIn_seq
theorem opEqD (hu : X.A.units + 64 < cLine) (e : X.K = K := by rfl) : OpR X (compareOp .Eq) (rEqD K) := e ▸ op_eqD hu
theorem opNeD (hu : X.A.units + 64 < cLine) (e : X.K = K := by rfl) : OpR X (compareOp .NotEq) (rNeD K) := e ▸ op_neD hu
theorem opCatT (e : X.K = K := by rfl) : OpR X (binaryOp .Add) (rCatT K) := e ▸ op_catT
theorem cLen (e : X.K = K := by rfl) : CallR X (.builtin "len") (rLen K) := e ▸ c_len
theorem cList (e : X.K = K := by rfl) : CallR X (.type "list") (rListOf K) := e ▸ c_list
theorem cTuple (e : X.K = K := by rfl) : CallR X (.type "tuple") (rTupOf K) := e ▸ c_tuple
theorem fldK {e : Expr} {f : Str} {pos : Pos} {ta : TE} (he : PE X e ta) (hb : attributeBase e f X.env (eval e X.env) = eval e X.env) (ek : X.K = K := by rfl) : PE X (.Attribute e f pos) (tFld K ta f) := ek ▸ pe_fld he hb
theorem piL {tg l : Expr} {tl : TE} (hl : PE X l tl) (e : X.K = K := by rfl) : PI X tg l (iList K tl) := e ▸ pi_list hl
theorem piT {tg l : Expr} {tl : TE} (hl : PE X l tl) (e : X.K = K := by rfl) : PI X tg l (iTup K tl) := e ▸ pi_tup hl
theorem pgT (n : Nat) {es : List Expr} {k : Nat} {t : TGs} {pos : Pos} (hc : X.calm = true) (h : PGs X es t) (e : X.K = K := by rfl)
    (hn : (assignEach es X.env).length = n := by rfl) (hst : (assignEach es X.env).findIdx? (·.1) = none := by rfl) : PG X (.Tuple es k pos) (gTup K n t) := e ▸ pg_tup hc h hn hst
theorem bmK0 {o : Expr} {to : TE} {name : Str} {apos cpos : Pos} {T id : String} {r : V → List V → Hp → VK → Prop} (pa : PlainAttrs T) (slot : Slot T name id) (hty : typeOf (.builtin id) = pure (.type "method_descriptor")) (hm : MtR X id r) (ho : PE X o to) (ek : X.K = K := by rfl)
    (hbase : attributeBase o name X.env (eval o X.env) = eval o X.env := by rfl) (hline : (apos.endLine == cpos.line) = true := by rfl) : PE X (.Call (.Attribute o name apos) [] [] cpos) (tBM0 K T r to) := ek ▸ pe_bm0 pa slot hty hm ho hbase hline
theorem bmK {o e : Expr} {es : List Expr} {to : TE} {t : TA} {name : Str} {apos cpos : Pos} {T id : String} {r : V → List V → Hp → VK → Prop} (pa : PlainAttrs T) (slot : Slot T name id) (hty : typeOf (.builtin id) = pure (.type "method_descriptor")) (hm : MtR X id r) (ho : PE X o to) (ha : PA X (e :: es) t) (ek : X.K = K := by rfl)
    (hbase : attributeBase o name X.env (eval o X.env) = eval o X.env := by rfl)
    (hfew : ((backTo cpos (starEach (e :: es) X.env)).all (fun x => !x.1) && (backToKw cpos (keywordEach [] X.env)).all (fun x => x.1.isSome)
      && decide ((e :: es).length + ([] : List Keyword).length + (if ([] : List Keyword).isEmpty then 0 else 1) < 30)) = true := by rfl)
    (hline : (apos.endLine == cpos.line) = true := by rfl) (hs : starEach (e :: es) X.env = (false, eval e X.env) :: starEach es X.env := by rfl) (hplain : (backTo cpos (starEach es X.env)).any (·.1) = false := by rfl) :
    PE X (.Call (.Attribute o name apos) (e :: es) [] cpos) (tBM K T r to t) := ek ▸ pe_bm pa slot hty hm ho ha hbase hfew hline hs hplain
theorem psFld {o value : Expr} {f : Str} {pos pos' : Pos} {ta tv : TE} (ha : PE X o ta) (hv : PE X value tv) (hs : swapsWith value (some (.Attribute o f pos')) pos.line X.env = pure false) (ek : X.K = K := by rfl) : PS X (.Assign [.Attribute o f pos'] value pos) (sFld K ta tv f) := ek ▸ ps_fld ha hv hs
end
/-! ### numbers that are great, but not too great -/
theorem mulS {i j : Int} (hi : i.natAbs < 2 ^ 1000) (hj : j.natAbs < 2 ^ 1000) : CMulW i j := wide_mul hi hj (by omega) (by omega) (by omega)
theorem divS {i j : Int} (h : 0 < j) (hj : j.natAbs < 2 ^ 1000) : CDivW i j := wide_div h hj (by omega) (by omega)
/-! ### cells -/
/-- the i-th cell -/
def cl (cs : List Int) (i : Nat) : Int := cs.getD i 0
theorem cl_at {cs : List Int} {i : Nat} (h : i < cs.length) : (cs.map V.int)[i]? = some (.int (cl cs i)) := by
  rw [List.getElem?_map, List.getElem?_eq_getElem h]
  simp [cl, List.getD, h]
theorem cl_atE {cs : List Int} {i : Int} {n : Nat} (e : i = (n : Int)) (h : n < cs.length) : atI (cs.map V.int) i = some (.int (cl cs n)) := by
  subst e; exact atI_nat (cl_at h)
section
variable {K : PySem.W.Frag} {σ σ' : L2.St} {H : Hp} {Q : VK} {QA : List V → Hp → Prop} {D : Ends} {v x y : V} {R : It → Hp → Prop}
def kPar (i j : Nat) (D : Ends) (σ : L2.St) : List V → Hp → Prop := fun vs H1 => ∃ v w, vs = [v, w] ∧ D.nx ((σ.set i (some v)).set j (some w)) H1
theorem g_par {i j : Nat} {ta : TA} (k : ta σ H (kPar i j D σ)) : tPar i j ta D σ H := k
theorem g_kPar {i j : Nat} (k : D.nx ((σ.set i (some x)).set j (some y)) H) : kPar i j D σ [x, y] H := ⟨x, y, rfl, k⟩
/-! ### what is walked -/
def kR1 (R : It → Hp → Prop) : List V → Hp → Prop := fun vs H1 => ∃ j : Int, vs = [.int j] ∧ -(2 ^ 62) ≤ j ∧ j < 2 ^ 62 ∧ R (Itr 0 j.toNat) H1
theorem g_iR1 {ta : TA} (k : ta σ H (kR1 R)) : iRng1 ta σ H R := k
theorem g_kR1 {n : Int} (h0 : 0 ≤ n) (h1 : n ≤ 100000) (k : R (Itr 0 n.toNat) H) : kR1 R [.int n] H := ⟨n, rfl, by omega, by omega, k⟩
def kR2 (R : It → Hp → Prop) : List V → Hp → Prop := fun vs H1 => ∃ i j : Int, vs = [.int i, .int j] ∧ (-(2 ^ 62) ≤ i ∧ i < 2 ^ 62 ∧ -(2 ^ 62) ≤ j ∧ j < 2 ^ 62) ∧ R (Itr i (j - i).toNat) H1
theorem g_iR2 {ta : TA} (k : ta σ H (kR2 R)) : iRng2 ta σ H R := k
theorem g_kR2 {i j : Int} (h0 : -100000 ≤ i) (h1 : i ≤ 100000) (h2 : -100000 ≤ j) (h3 : j ≤ 100000) (k : R (Itr i (j - i).toNat) H) : kR2 R [.int i, .int j] H := ⟨i, j, rfl, ⟨by omega, by omega, by omega, by omega⟩, k⟩
def kL (K : PySem.W.Frag) (R : It → Hp → Prop) : VK := fun x H1 => ∃ a, x = .ref a ∧ (∃ xs, SqL K H1 a xs) ∧ R (Itl K a) H1
theorem g_iL {tl : TE} (k : tl σ H (kL K R)) : iList K tl σ H R := k
theorem g_kL {a : Addr} {xs : List V} (h : SqL K H a xs) (k : R (Itl K a) H) : kL K R (.ref a) H := ⟨a, rfl, ⟨xs, h⟩, k⟩
/-! ### for -/
def kFor (g : TG) (tb : TS) (D : Ends) (σ : L2.St) : It → Hp → Prop := fun J H1 => ∃ W : Nat → Nat → L2.St → Hp → Prop, (∃ m, W 0 m σ H1) ∧ ∀ i m σ H, W i m σ H →
  (J.stop i H ∧ D.nx σ H) ∨ (J.go i H ∧ ∃ N : L2.St → Hp → Prop, (∀ σ' H', N σ' H' → ∃ m', m' < m ∧ W (i + 1) m' σ' H') ∧ ∀ x H', J.yld i H x H' → g x σ H' fun σ2 H2 => tb { D with nx := N, ct := N, bk := D.nx } σ2 H2)
theorem g_for {wi : TI} {g : TG} {tb : TS} (k : wi σ H (kFor g tb D σ)) : tFor wi g tb D σ H := k
theorem g_forR {lo : Int} {n : Nat} {g : TG} {tb : TS} (Pv : Nat → L2.St → Hp → Prop) (h0 : Pv 0 σ H)
    (hs : ∀ i σ H, i < n → Pv i σ H → g (.int (lo + i)) σ H fun σ2 H2 => tb { D with nx := Pv (i + 1), ct := Pv (i + 1), bk := D.nx } σ2 H2) (hd : ∀ σ H, Pv n σ H → D.nx σ H) : kFor g tb D σ (Itr lo n) H :=
  for_range Pv h0 hs hd
theorem g_forL {a : Addr} {xs : List V} {g : TG} {tb : TS} (Pv : Nat → L2.St → Hp → Prop) (h0 : Pv 0 σ H) (hl : ∀ i σ H, i ≤ xs.length → Pv i σ H → SqL K H a xs)
    (hs : ∀ i x σ H, xs[i]? = some x → Pv i σ H → g x σ H fun σ2 H2 => tb { D with nx := Pv (i + 1), ct := Pv (i + 1), bk := D.nx } σ2 H2) (hd : ∀ σ H, Pv xs.length σ H → D.nx σ H) : kFor g tb D σ (Itl K a) H :=
  for_list Pv h0 hl hs hd
/-! ### comprehensions -/
def kLc (g : TG) (tt : TT) (te : TE) (vs : List Nat) (σ : L2.St) (Q : VK) : It → Hp → Prop := fun J H1 => ∀ D, H1 D = none → ∃ W : Nat → Nat → Hp → Prop, (∃ m, W 0 m (upd H1 D (.lst []))) ∧ ∀ i m H, W i m H →
  (J.stop i H ∧ Q (.ref D) H) ∨ (J.go i H ∧ ∃ Nx : Hp → Prop, (∀ H', Nx H' → ∃ m', m' < m ∧ W (i + 1) m' H') ∧ ∀ x H', J.yld i H x H' → g x (wipe σ vs) H' fun σ2 H2 => wipe σ2 vs = wipe σ vs ∧ tt σ2 H2 fun b H3 =>
    if b = true then te σ2 H3 fun y H4 => ∃ acc, H4 D = some (.lst acc) ∧ acc.length < sizeLine ∧ Nx (upd H4 D (.lst (acc ++ [y]))) else Nx H3)
theorem g_lc {wi : TI} {g : TG} {tt : TT} {te : TE} {vs : List Nat} (k : wi σ H (kLc g tt te vs σ Q)) : tLc wi g tt te vs σ H Q := k
theorem upd_Mx {H H' : Hp} {p : Addr} {o : HO} (h : H p = none) (m : Mx [] H H') : Mx [] H (upd H' p o) := fun a u e _ => by
  rw [upd_ne (ne_of_none e h)]; exact m a u e (by simp)
theorem range_fm {α : Type} (f : Nat → Option α) (i : Nat) : (List.range (i + 1)).filterMap f = (List.range i).filterMap f ++ (match f i with | some y => [y] | none => []) := by
  rw [List.range_succ, List.filterMap_append]
  congr 1
  cases h : f i <;> simp [List.filterMap, h]
theorem fm_len {α : Type} (f : Nat → Option α) (n : Nat) : ((List.range n).filterMap f).length ≤ n := by
  refine Nat.le_trans (List.length_filterMap_le _ _) ?_
  rw [List.length_range]; exact Nat.le_refl _
/-- one turn's test and item, nothing written -/
def LcTurn (tt : TT) (te : TE) (σ : L2.St) (H : Hp) (o : Option V) : Prop := tt σ H fun b H2 => if b = true then te σ H2 fun y H3 => Mx [] H H3 ∧ o = some y else Mx [] H H2 ∧ o = none
/-- readings are monotone in what is wanted: the two that the turn asks -/
structure Mono (tt : TT) (te : TE) : Prop where
  t : ∀ σ H (Q Q' : Bool → Hp → Prop), (∀ b H', Q b H' → Q' b H') → tt σ H Q → tt σ H Q'
  e : ∀ σ H (Q Q' : VK), (∀ v H', Q v H' → Q' v H') → te σ H Q → te σ H Q'
/-- over a range: the turn is shown for whatever it is to reach -/
theorem g_lcR {lo : Int} {n j : Nat} {tt : TT} {te : TE} {vs : List Nat} (f : Nat → Option V) (hw : ∀ x, wipe ((wipe σ vs).set j (some x)) vs = wipe σ vs) (hn : n ≤ 50000)
    (hs : ∀ (i : Nat) (H' : Hp) (QN : Option V → Hp → Prop), i < n → Mx [] H H' → (∀ o H3, Mx [] H' H3 → o = f i → QN o H3) →
      tt ((wipe σ vs).set j (some (.int (lo + i)))) H' fun b H3 => if b = true then te ((wipe σ vs).set j (some (.int (lo + i)))) H3 fun y H4 => QN (some y) H4 else QN none H3)
    (hd : ∀ Dl H', H Dl = none → Mx [] H H' → H' Dl = some (.lst ((List.range n).filterMap f)) → Q (.ref Dl) H') : kLc (gName j) tt te vs σ Q (Itr lo n) H := by
  intro Dl hDl
  refine lc_range (fun i H' => Mx [] H H' ∧ H' Dl = some (.lst ((List.range i).filterMap f))) ⟨.new hDl, upd_same⟩ (fun i H' hi hp => ?_) (fun H' hp => hd Dl H' hDl hp.1 hp.2)
  obtain ⟨m, e⟩ := hp
  refine ⟨hw _, ?_⟩
  have key := hs i H' (fun o H3 => match o with
    | some y => ∃ acc, H3 Dl = some (.lst acc) ∧ acc.length < sizeLine ∧ (Mx [] H (upd H3 Dl (.lst (acc ++ [y]))) ∧ upd H3 Dl (.lst (acc ++ [y])) Dl = some (.lst ((List.range (i + 1)).filterMap f)))
    | none => Mx [] H H3 ∧ H3 Dl = some (.lst ((List.range (i + 1)).filterMap f))) hi m ?_
  · exact key
  · intro o H3 m3 eo
    cases o with
    | some y =>
      refine ⟨_, m3.get0 e, lineL (Nat.lt_of_le_of_lt (fm_len f i) (by omega)), upd_Mx hDl (m.trans m3), ?_⟩
      rw [upd_same, range_fm, ← eo]
    | none =>
      refine ⟨m.trans m3, ?_⟩
      rw [range_fm, ← eo, List.append_nil]
      exact m3.get0 e
/-- over a list -/
theorem g_lcL {a : Addr} {xs : List V} {j : Nat} {tt : TT} {te : TE} {vs : List Nat} (f : Nat → Option V) (hw : ∀ x, wipe ((wipe σ vs).set j (some x)) vs = wipe σ vs) (hn : xs.length ≤ 50000) (hx : SqL K H a xs)
    (hs : ∀ (i : Nat) (x : V) (H' : Hp) (QN : Option V → Hp → Prop), xs[i]? = some x → Mx [] H H' → (∀ o H3, Mx [] H' H3 → o = f i → QN o H3) →
      tt ((wipe σ vs).set j (some x)) H' fun b H3 => if b = true then te ((wipe σ vs).set j (some x)) H3 fun y H4 => QN (some y) H4 else QN none H3)
    (hd : ∀ Dl H', H Dl = none → Mx [] H H' → H' Dl = some (.lst ((List.range xs.length).filterMap f)) → Q (.ref Dl) H') : kLc (gName j) tt te vs σ Q (Itl K a) H := by
  intro Dl hDl
  refine lc_list (xs := xs) (fun i H' => i ≤ xs.length ∧ Mx [] H H' ∧ H' Dl = some (.lst ((List.range i).filterMap f))) ⟨Nat.zero_le _, .new hDl, upd_same⟩ (fun i H' _ hp => hp.2.1.sqL0 hx) (fun i x H' hi hp => ?_) (fun H' hp => hd Dl H' hDl hp.2.1 hp.2.2)
  obtain ⟨le, m, e⟩ := hp
  have lt : i < xs.length := (List.getElem?_eq_some_iff.mp hi).1
  refine ⟨hw _, ?_⟩
  have key := hs i x H' (fun o H3 => match o with
    | some y => ∃ acc, H3 Dl = some (.lst acc) ∧ acc.length < sizeLine ∧ (i + 1 ≤ xs.length ∧ Mx [] H (upd H3 Dl (.lst (acc ++ [y]))) ∧ upd H3 Dl (.lst (acc ++ [y])) Dl = some (.lst ((List.range (i + 1)).filterMap f)))
    | none => i + 1 ≤ xs.length ∧ Mx [] H H3 ∧ H3 Dl = some (.lst ((List.range (i + 1)).filterMap f))) hi m ?_
  · exact key
  · intro o H3 m3 eo
    cases o with
    | some y =>
      refine ⟨_, m3.get0 e, lineL (Nat.lt_of_le_of_lt (fm_len f i) (by omega)), lt, upd_Mx hDl (m.trans m3), ?_⟩
      rw [upd_same, range_fm, ← eo]
    | none =>
      refine ⟨lt, m.trans m3, ?_⟩
      rw [range_fm, ← eo, List.append_nil]
      exact m3.get0 e
end
end Fk

set_option maxRecDepth 100000
namespace Fk
open PySem PySem.Spec PyProof.Rows L2
end Fk
namespace L2
open PySem PySem.Spec PyProof.Rows Fk
/-! ### data on the heap -/
mutual
theorem Dp.mx {K : PySem.W.Frag} {H H' : Hp} (m : Mx [] H H') : ∀ {v : V} {d : PyData}, Dp K H v d → Dp K H' v d
  | _, _, .non => .non
  | _, _, .bl b => .bl b
  | _, _, .int i => .int i
  | _, _, .str x => .str x
  | _, _, .lst h a => .lst (m.sqL0 h) (DpAll.mx m a)
  | _, _, .tup h a => .tup (m.sqT0 h) (DpAll.mx m a)
theorem DpAll.mx {K : PySem.W.Frag} {H H' : Hp} (m : Mx [] H H') : ∀ {vs : List V} {ds : List PyData}, DpAll K H vs ds → DpAll K H' vs ds
  | _, _, .nil => .nil
  | _, _, .cons h r => .cons (Dp.mx m h) (DpAll.mx m r)
end
end L2
namespace Fk
open PySem PySem.Spec PyProof.Rows L2
mutual
/-- no list within -/
def frz : PyData → Bool
  | .none | .bool _ | .int _ | .str _ => true
  | .tuple xs => frzAll xs
  | .list _ | .dict _ => false
def frzAll : List PyData → Bool
  | [] => true
  | x :: xs => frz x && frzAll xs
end
/-- what is written are no tuples -/
def NoTup (H : Hp) (S : List Addr) : Prop := ∀ x ∈ S, ∀ u, H x = some u → (∀ ys, u ≠ .tup ys) ∧ ∀ o w, u ≠ .frz o w
theorem Mx.sqTw {K : PySem.W.Frag} {S : List Addr} {H H' : Hp} {a : Addr} {xs : List V} (m : Mx S H H') (n : NoTup H S) (h : SqT K H a xs) : SqT K H' a xs := by
  rcases h with (h | ⟨o, h⟩) | h
  · exact .inl (.inl (m a _ h fun z => (n a z _ h).1 xs rfl))
  · exact .inl (.inr ⟨o, m a _ h fun z => (n a z _ h).2 _ _ rfl⟩)
  · exact .inr h
end Fk
namespace L2
open PySem PySem.Spec PyProof.Rows Fk
mutual
theorem Dp.mxT {K : PySem.W.Frag} {S : List Addr} {H H' : Hp} (m : Mx S H H') (n : NoTup H S) : ∀ {v : V} {d : PyData}, frz d = true → Dp K H v d → Dp K H' v d
  | _, _, _, .non => .non
  | _, _, _, .bl b => .bl b
  | _, _, _, .int i => .int i
  | _, _, _, .str x => .str x
  | _, _, f, .lst h a => by simp [frz] at f
  | _, _, f, .tup h a => .tup (m.sqTw n h) (DpAll.mxT m n (by simpa [frz] using f) a)
theorem DpAll.mxT {K : PySem.W.Frag} {S : List Addr} {H H' : Hp} (m : Mx S H H') (n : NoTup H S) : ∀ {vs : List V} {ds : List PyData}, frzAll ds = true → DpAll K H vs ds → DpAll K H' vs ds
  | _, _, _, .nil => .nil
  | v :: vs, d :: ds, f, .cons h r => by
    have q : frz d = true ∧ frzAll ds = true := by simpa [frzAll] using f
    exact .cons (Dp.mxT m n q.1 h) (DpAll.mxT m n q.2 r)
end
theorem DpAll.len {K : PySem.W.Frag} {H : Hp} : ∀ {vs : List V} {ds : List PyData}, DpAll K H vs ds → vs.length = ds.length
  | _, _, .nil => rfl
  | _, _, .cons _ r => by simp [DpAll.len r]
theorem DpAll.app {K : PySem.W.Frag} {H : Hp} : ∀ {vs ws : List V} {ds es : List PyData}, DpAll K H vs ds → DpAll K H ws es → DpAll K H (vs ++ ws) (ds ++ es)
  | _, _, _, _, .nil, q => q
  | _, _, _, _, .cons h r, q => .cons h (DpAll.app r q)
theorem DpAll.get {K : PySem.W.Frag} {H : Hp} : ∀ {vs : List V} {ds : List PyData} {i : Nat} {d : PyData}, DpAll K H vs ds → ds[i]? = some d → ∃ v, vs[i]? = some v ∧ Dp K H v d
  | _, _, _, _, .nil, e => by simp at e
  | _, _, 0, _, .cons h _, e => by simp at e; subst e; exact ⟨_, rfl, h⟩
  | _, _, i + 1, _, .cons _ r, e => by
    obtain ⟨v, h1, h2⟩ := DpAll.get (i := i) r (by simpa using e)
    exact ⟨v, by simpa using h1, h2⟩
theorem DpAll.get' {K : PySem.W.Frag} {H : Hp} : ∀ {vs : List V} {ds : List PyData} {i : Nat} {v : V}, DpAll K H vs ds → vs[i]? = some v → ∃ d, ds[i]? = some d ∧ Dp K H v d
  | _, _, _, _, .nil, e => by simp at e
  | _, _, 0, _, .cons h _, e => by simp at e; subst e; exact ⟨_, rfl, h⟩
  | _, _, i + 1, _, .cons _ r, e => by
    obtain ⟨v, h1, h2⟩ := DpAll.get' (i := i) r (by simpa using e)
    exact ⟨v, by simpa using h1, h2⟩
theorem DpAll.take {K : PySem.W.Frag} {H : Hp} : ∀ {vs : List V} {ds : List PyData} (n : Nat), DpAll K H vs ds → DpAll K H (vs.take n) (ds.take n)
  | _, _, 0, _ => by simp; exact .nil
  | _, _, n + 1, .nil => by simp; exact .nil
  | _, _, n + 1, .cons h r => by simp; exact .cons h (DpAll.take n r)
theorem DpAll.drop {K : PySem.W.Frag} {H : Hp} : ∀ {vs : List V} {ds : List PyData} (n : Nat), DpAll K H vs ds → DpAll K H (vs.drop n) (ds.drop n)
  | _, _, 0, h => by simpa using h
  | _, _, n + 1, .nil => by simp; exact .nil
  | _, _, n + 1, .cons h r => by simpa using DpAll.drop n r
theorem DpAll.ints {K : PySem.W.Frag} {H : Hp} : ∀ ns : List Int, DpAll K H (ns.map V.int) (ns.map PyData.int)
  | [] => .nil
  | n :: r => .cons (.int n) (DpAll.ints r)
theorem Dp.ints {K : PySem.W.Frag} {H : Hp} {a : Addr} {ns : List Int} (h : SqL K H a (ns.map V.int)) : Dp K H (.ref a) (.list (ns.map PyData.int)) := .lst h (DpAll.ints ns)
end L2
namespace Fk
open PySem PySem.Spec PyProof.Rows L2
/-! ### data that == tells apart as it is -/
theorem lay_ints : ∀ ns : List Int, PyData.canLayAll0 (ns.map PyData.int) = true
  | [] => rfl
  | n :: r => by simp [PyData.canLayAll0, PyData.canLay0, lay_ints r]
theorem dep_ints : ∀ ns : List Int, PyData.depthAll (ns.map PyData.int) = 0
  | [] => rfl
  | n :: r => by simp [PyData.depthAll, PyData.depth, dep_ints r]
theorem shaped_ints (ns : List Int) : SeqAt.shaped (.list (ns.map PyData.int)) = true := by
  simp [SeqAt.shaped, PyData.canLay0, lay_ints, PyData.depth, dep_ints]
theorem eqv_ints : ∀ xs ys : List Int, PyData.eqvAll (xs.map PyData.int) (ys.map PyData.int) = decide (xs = ys)
  | [], [] => rfl
  | [], _ :: _ => by simp [PyData.eqvAll]
  | _ :: _, [] => by simp [PyData.eqvAll]
  | x :: xs, y :: ys => by
    simp only [List.map_cons, PyData.eqvAll, PyData.eqv, eqv_ints xs ys]
    by_cases h : x = y <;> simp [h]
/-- a stamp, a tuple of two -/
def stD (s : Int × Int) : PyData := .tuple [.int s.1, .int s.2]
theorem lay_sts : ∀ ns : List (Int × Int), PyData.canLayAll0 (ns.map stD) = true
  | [] => rfl
  | n :: r => by simp [PyData.canLayAll0, PyData.canLay0, stD, lay_sts r]
theorem dep_sts : ∀ ns : List (Int × Int), PyData.depthAll (ns.map stD) ≤ 1
  | [] => by simp [PyData.depthAll]
  | n :: r => by have := dep_sts r; simp [PyData.depthAll, PyData.depth, stD]; omega
theorem shaped_sts (ns : List (Int × Int)) : SeqAt.shaped (.list (ns.map stD)) = true := by
  have := dep_sts ns
  simp [SeqAt.shaped, PyData.canLay0, lay_sts, PyData.depth]
  omega
theorem eqv_sts : ∀ xs ys : List (Int × Int), PyData.eqvAll (xs.map stD) (ys.map stD) = decide (xs = ys)
  | [], [] => rfl
  | [], _ :: _ => by simp [PyData.eqvAll]
  | _ :: _, [] => by simp [PyData.eqvAll]
  | x :: xs, y :: ys => by
    obtain ⟨a, b⟩ := x; obtain ⟨c, d⟩ := y
    simp only [List.map_cons, PyData.eqvAll, PyData.eqv, eqv_sts xs ys, stD]
    by_cases h : a = c <;> by_cases h' : b = d <;> simp [h, h']
theorem frz_sts : ∀ ns : List (Int × Int), frzAll (ns.map stD) = true
  | [] => rfl
  | n :: r => by simp [frzAll, frz, stD, frz_sts r]
theorem frz_ints : ∀ ns : List Int, frzAll (ns.map PyData.int) = true
  | [] => rfl
  | n :: r => by simp [frzAll, frz, frz_ints r]
theorem _root_.L2.Dp.st {K : PySem.W.Frag} {H : Hp} {v : V} {s : Int × Int} (h : Dp K H v (stD s)) : ∃ a, v = .ref a ∧ SqT K H a [.int s.1, .int s.2] := by
  unfold stD at h
  cases h with
  | tup h a =>
    cases a with
    | cons h1 r1 => cases h1; cases r1 with
      | cons h2 r2 => cases h2; cases r2; exact ⟨_, rfl, h⟩
theorem _root_.L2.Dp.mkSt {K : PySem.W.Frag} {H : Hp} {a : Addr} {s : Int × Int} (h : SqT K H a [.int s.1, .int s.2]) : Dp K H (.ref a) (stD s) := .tup h (.cons (.int _) (.cons (.int _) .nil))
theorem noTup1 {H : Hp} {l : Addr} {xs : List V} (h : H l = some (.lst xs)) : NoTup H [l] := fun x hx u e => by
  simp at hx; subst hx; rw [h] at e; cases e; exact ⟨(fun _ z => nomatch z), (fun _ _ z => nomatch z)⟩
theorem Mx.sts {K : PySem.W.Frag} {S : List Addr} {H H' : Hp} {vs : List V} {ss : List (Int × Int)} (m : Mx S H H') (n : NoTup H S) (h : DpAll K H vs (ss.map stD)) : DpAll K H' vs (ss.map stD) := DpAll.mxT m n (frz_sts ss) h
theorem Mx.own {S : List Addr} {H H1 H2 : Hp} {p : Addr} (m : Mx S H H1) (f : H p = none) (k : Mx [p] H1 H2) : Mx S H H2 := fun a o e n =>
  k a o (m a o e n) (by simp; exact ne_of_none e f)
theorem ixE {n j : Nat} {i : Int} (e : i = (j : Int)) (h : j < n) : ixN n i = some j := by
  subst e; unfold ixN; rw [if_pos (by omega), if_pos (by omega)]; rfl
theorem g_setI {H : Hp} {p : Addr} {ns : List Int} {i z : Int} {j : Nat} {QH : Hp → Prop} (h : H p = some (.lst (ns.map V.int))) (e : i = (j : Int)) (hj : j < ns.length)
    (k : ∀ H', Mx [p] H H' → H' p = some (.lst ((ns.set j z).map V.int)) → QH H') : rSetL (.ref p) (.int i) (.int z) H QH :=
  g_setL h (ixE e (by rw [List.length_map]; exact hj)) fun H' m q => k H' m (by rw [q, List.map_set])
section
variable {K : PySem.W.Frag} {H : Hp} {Q : VK} {x y : V}
theorem g_eqD {d e : PyData} (h1 : Dp K H x d) (h2 : Dp K H y e) (s1 : SeqAt.shaped d = true) (s2 : SeqAt.shaped e = true) (k : Q (.bl (PyData.eqv d e)) H) : rEqD K x y H Q := ⟨d, e, h1, h2, s1, s2, k⟩
theorem g_neD {d e : PyData} (h1 : Dp K H x d) (h2 : Dp K H y e) (s1 : SeqAt.shaped d = true) (s2 : SeqAt.shaped e = true) (k : Q (.bl (!PyData.eqv d e)) H) : rNeD K x y H Q := ⟨d, e, h1, h2, s1, s2, k⟩
/-- two lists of ints -/
theorem g_eqI {a b : Addr} {xs ys : List Int} (h1 : SqL K H a (xs.map V.int)) (h2 : SqL K H b (ys.map V.int)) (k : Q (.bl (decide (xs = ys))) H) : rEqD K (.ref a) (.ref b) H Q :=
  g_eqD (Dp.ints h1) (Dp.ints h2) (shaped_ints xs) (shaped_ints ys) (by rw [PyData.eqv, eqv_ints]; exact k)
theorem g_neI {a b : Addr} {xs ys : List Int} (h1 : SqL K H a (xs.map V.int)) (h2 : SqL K H b (ys.map V.int)) (k : Q (.bl (!decide (xs = ys))) H) : rNeD K (.ref a) (.ref b) H Q :=
  g_neD (Dp.ints h1) (Dp.ints h2) (shaped_ints xs) (shaped_ints ys) (by rw [PyData.eqv, eqv_ints]; exact k)
theorem g_eqS {a b : Addr} {xs ys : List (Int × Int)} (h1 : Dp K H (.ref a) (.list (xs.map stD))) (h2 : Dp K H (.ref b) (.list (ys.map stD))) (k : Q (.bl (decide (xs = ys))) H) : rEqD K (.ref a) (.ref b) H Q :=
  g_eqD h1 h2 (shaped_sts xs) (shaped_sts ys) (by rw [PyData.eqv, eqv_sts]; exact k)
theorem g_neS {a b : Addr} {xs ys : List (Int × Int)} (h1 : Dp K H (.ref a) (.list (xs.map stD))) (h2 : Dp K H (.ref b) (.list (ys.map stD))) (k : Q (.bl (!decide (xs = ys))) H) : rNeD K (.ref a) (.ref b) H Q :=
  g_neD h1 h2 (shaped_sts xs) (shaped_sts ys) (by rw [PyData.eqv, eqv_sts]; exact k)
end
end Fk

set_option maxRecDepth 100000
namespace Fk
open PySem PySem.Spec PyProof.Rows L2
section
variable {K : PySem.W.Frag} {σ σ' : L2.St} {H : Hp} {Q : VK} {D : Ends} {v x y : V} {R : It → Hp → Prop}
/-! ### a dict locked while it is walked -/
theorem g_lock {t : TS} {d : Addr} {u : HO} (h : H d = some u) (mu : Mut (some u))
    (k : ∀ od H1, Mx [d] H H1 → H1 d = some (.frz od u) → t ⟨fun σ' H' => H' d = some (.frz od u) ∧ D.nx σ' (upd H' d u), fun v H' => H' d = some (.frz od u) ∧ D.rt v (upd H' d u), fun σ' H' => H' d = some (.frz od u) ∧ D.bk σ' (upd H' d u), fun σ' H' => H' d = some (.frz od u) ∧ D.ct σ' (upd H' d u)⟩ σ H1) : tLock t D σ H :=
  ⟨d, u, h, mu, fun od => k od _ (.put (by simp)) upd_same⟩
def kKeys (R : It → Hp → Prop) : VK := fun x H1 => ∃ d o, x = .ref d ∧ ((∃ kvs, H1 d = some (.frz o (.dK kvs)) ∧ R (Itk d o kvs) H1) ∨ ∃ kvs, H1 d = some (.frz o (.dT kvs)) ∧ R (Itkt d o kvs) H1)
theorem g_iK {td : TE} (k : td σ H (kKeys R)) : iKeys td σ H R := k
theorem g_kKeys {d : Addr} {o : Obj} {kvs : List (Key × V)} (h : H d = some (.frz o (.dK kvs))) (k : R (Itk d o kvs) H) : kKeys R (.ref d) H := ⟨d, o, rfl, .inl ⟨kvs, h, k⟩⟩
theorem g_forK {d : Addr} {o : Obj} {kvs : List (Key × V)} {g : TG} {tb : TS} (Pv : Nat → L2.St → Hp → Prop) (h0 : Pv 0 σ H) (hl : ∀ i σ H, Pv i σ H → H d = some (.frz o (.dK kvs)))
    (hs : ∀ i k v σ H, kvs[i]? = some (k, v) → Pv i σ H → g (kV k) σ H fun σ2 H2 => tb { D with nx := Pv (i + 1), ct := Pv (i + 1), bk := D.nx } σ2 H2) (hd : ∀ σ H, Pv kvs.length σ H → D.nx σ H) : kFor g tb D σ (Itk d o kvs) H := by
  refine ⟨fun i m σ H => Pv i σ H ∧ i + m = kvs.length, ⟨kvs.length, h0, by simp⟩, fun i m σ H ⟨p, e⟩ => ?_⟩
  have hh := hl i σ H p
  by_cases hi : i < kvs.length
  · refine .inr ⟨⟨hh, hi⟩, fun σ' H' => Pv (i + 1) σ' H', fun σ' H' q => ⟨m - 1, by omega, q, by omega⟩, fun x H' hy => ?_⟩
    obtain ⟨rfl, k, v, hk, rfl⟩ := hy
    exact hs i k v σ H' hk p
  · have : i = kvs.length := by omega
    subst this
    exact .inl ⟨⟨hh, Nat.le_refl _⟩, hd σ H p⟩
/-! ### several ways, one going on -/
theorem g_cut {te : TE} (R : VK → Prop) (h : ∀ Q' : VK, R Q' → te σ H Q') (k : R Q) : te σ H Q := h Q k
theorem g_cutT {te : TT} {Q : Bool → Hp → Prop} (R : (Bool → Hp → Prop) → Prop) (h : ∀ Q' : Bool → Hp → Prop, R Q' → te σ H Q') (k : R Q) : te σ H Q := h Q k
theorem g_cutS {t : TS} (R : (L2.St → Hp → Prop) → Prop) (h : ∀ N, R N → t { D with nx := N } σ H) (k : R D.nx) : t D σ H := h D.nx k
/-! ### comprehensions that make data -/
theorem tup_wr {H : Hp} {ws : List V} {ds : List PyData} {p : Addr} {o : HO} {us : List V} (h : H p = some (.lst us)) (f : frzAll ds = true) (d : DpAll K H ws ds) : DpAll K (upd H p o) ws ds :=
  d.mxT (.put (S := [p]) (by simp)) (noTup1 h) f
theorem frzAll_map {α : Type} {f : α → PyData} : ∀ {l : List α}, (∀ a ∈ l, frz (f a) = true) → frzAll (l.map f) = true
  | [], _ => rfl
  | a :: l, h => by
    rw [List.map_cons, frzAll, h a List.mem_cons_self, frzAll_map fun b hb => h b (List.mem_cons_of_mem _ hb)]
    rfl
theorem g_lcRD {lo : Int} {n j : Nat} {te : TE} {vs : List Nat} (ds : Nat → PyData) (fz : ∀ i, frz (ds i) = true) (hw : ∀ x, wipe ((wipe σ vs).set j (some x)) vs = wipe σ vs) (hn : n ≤ 50000)
    (hs : ∀ (i : Nat) (H' : Hp) (QN : VK), i < n → Mx [] H H' → (∀ y H3, Mx [] H' H3 → Dp K H3 y (ds i) → QN y H3) → te ((wipe σ vs).set j (some (.int (lo + i)))) H' QN)
    (hd : ∀ Dl H' ws, H Dl = none → Mx [] H H' → H' Dl = some (.lst ws) → DpAll K H' ws ((List.range n).map ds) → Q (.ref Dl) H') : kLc (gName j) tYes te vs σ Q (Itr lo n) H := by
  intro Dl hDl
  refine lc_range (fun i H' => Mx [] H H' ∧ ∃ ws, H' Dl = some (.lst ws) ∧ DpAll K H' ws ((List.range i).map ds)) ⟨.new hDl, [], upd_same, .nil⟩ (fun i H' hi hp => ?_) (fun H' hp => ?_)
  · obtain ⟨m, ws, e, d⟩ := hp
    refine ⟨hw _, ?_⟩
    show te _ H' _
    refine hs i H' _ hi m fun y H3 m3 dy => ?_
    have lw := d.len
    rw [List.length_map, List.length_range] at lw
    refine ⟨ws, m3.get0 e, lineL (by omega), upd_Mx hDl (m.trans m3), _, upd_same, ?_⟩
    rw [List.range_succ, List.map_append]
    have f1 : frzAll ((List.range i).map ds ++ [i].map ds) = true := by rw [← List.map_append]; exact frzAll_map fun a _ => fz a
    exact tup_wr (m3.get0 e) f1 ((d.mx m3).app (.cons dy .nil))
  · obtain ⟨m, ws, e, d⟩ := hp
    exact hd Dl H' ws hDl m e d
theorem g_lcLD {a : Addr} {xs : List V} {j : Nat} {te : TE} {vs : List Nat} (ds : Nat → PyData) (fz : ∀ i, frz (ds i) = true) (hw : ∀ x, wipe ((wipe σ vs).set j (some x)) vs = wipe σ vs) (hn : xs.length ≤ 50000) (hx : SqL K H a xs)
    (hs : ∀ (i : Nat) (x : V) (H' : Hp) (QN : VK), xs[i]? = some x → Mx [] H H' → (∀ y H3, Mx [] H' H3 → Dp K H3 y (ds i) → QN y H3) → te ((wipe σ vs).set j (some x)) H' QN)
    (hd : ∀ Dl H' ws, H Dl = none → Mx [] H H' → H' Dl = some (.lst ws) → DpAll K H' ws ((List.range xs.length).map ds) → Q (.ref Dl) H') : kLc (gName j) tYes te vs σ Q (Itl K a) H := by
  intro Dl hDl
  refine lc_list (xs := xs) (fun i H' => i ≤ xs.length ∧ Mx [] H H' ∧ ∃ ws, H' Dl = some (.lst ws) ∧ DpAll K H' ws ((List.range i).map ds)) ⟨Nat.zero_le _, .new hDl, [], upd_same, .nil⟩ (fun i H' _ hp => hp.2.1.sqL0 hx) (fun i x H' hi hp => ?_) (fun H' hp => ?_)
  · obtain ⟨le, m, ws, e, d⟩ := hp
    have lt : i < xs.length := (List.getElem?_eq_some_iff.mp hi).1
    refine ⟨hw _, ?_⟩
    show te _ H' _
    refine hs i x H' _ hi m fun y H3 m3 dy => ?_
    have lw := d.len
    rw [List.length_map, List.length_range] at lw
    refine ⟨ws, m3.get0 e, lineL (by omega), lt, upd_Mx hDl (m.trans m3), _, upd_same, ?_⟩
    rw [List.range_succ, List.map_append]
    have f1 : frzAll ((List.range i).map ds ++ [i].map ds) = true := by rw [← List.map_append]; exact frzAll_map fun a _ => fz a
    exact tup_wr (m3.get0 e) f1 ((d.mx m3).app (.cons dy .nil))
  · obtain ⟨_, m, ws, e, d⟩ := hp
    exact hd Dl H' ws hDl m e d
end
end Fk

set_option maxRecDepth 100000
namespace Fk
open PySem PySem.Spec PyProof.Rows L2
section
variable {X : Cx} (K : PySem.W.Frag)
theorem ixQ (e : X.K = K := by rfl) : IxR X (rIx K) := e ▸ ix_seq
theorem cIsi (e : X.K = K := by rfl) : CallR X (.builtin "isinstance") (rIsi K) := e ▸ call_isi
theorem cIsiT (e : X.K = K := by rfl) : CallR X (.builtin "isinstance") (rIsiT K) := e ▸ call_isiT
end
section
variable {K : PySem.W.Frag} {H : Hp} {Q : VK} {x v : V}
theorem g_ixQL {p : Addr} {xs : List V} {i : Int} (h : SqL K H p xs) (ha : atI xs i = some v) (k : Q v H) : rIx K (.ref p) (.int i) H Q := .inl (g_ixL h ha k)
theorem g_ixQT {p : Addr} {xs : List V} {i : Int} (h : SqT K H p xs) (ha : atI xs i = some v) (k : Q v H) : rIx K (.ref p) (.int i) H Q := .inr (.inl (g_ixT h ha k))
theorem g_isi {a b : String} {r : Bool} (ty : TyX K H x (.type a)) (e : kitB a b = some r) (k : Q (.bl r) H) : rIsi K [x, .ty b] H Q := ⟨x, .ty b, .type a, .type b, r, rfl, .ty b, ty, kit_ty e, k⟩
theorem g_isiT2 {a b c : String} {r s : Bool} {tp : Addr} (h : H tp = some (.tup [.ty b, .ty c])) (ty : TyX K H x (.type a)) (e : kitB a b = some r) (e2 : kitB a c = some s) (k : Q (.bl (r || s)) H) : rIsiT K [x, .ref tp] H Q := by
  refine ⟨x, tp, [.ty b, .ty c], .type a, [.type b, .type c], r || s, rfl, h, .cons (.ty b) (.cons (.ty c) .nil), ty, ?_, k⟩
  refine kitAny_cons (kit_ty e) (fun er => ?_) (fun er => by rw [er]; rfl)
  rw [er, Bool.false_or]
  exact kitAny_cons (kit_ty e2) (fun es => by rw [es]; exact kitAny_nil) (fun es => es)
theorem tyL {a : Addr} {xs : List V} (h : SqL K H a xs) : TyX K H (.ref a) (.type "list") := by
  rcases h with (h | ⟨o, h⟩) | ⟨o, its, n, h, c, _⟩
  · exact .base (.lst h)
  · exact .base (.frz h)
  · exact .kList h c
theorem tyT {a : Addr} {xs : List V} (h : SqT K H a xs) : TyX K H (.ref a) (.type "tuple") := by
  rcases h with (h | ⟨o, h⟩) | ⟨o, its, n, h, c, _⟩
  · exact .base (.tup h)
  · exact .fTuple h
  · exact .kTuple h c
theorem TyX.mx {t : Value} {H' : Hp} (m : Mx [] H H') (h : TyX K H x t) : TyX K H' x t := by
  cases h with
  | base h => cases h with
    | non => exact .base .non
    | bl b => exact .base (.bl b)
    | int i => exact .base (.int i)
    | str z => exact .base (.str z)
    | flt z => exact .base (.flt z)
    | lst e => exact .base (.lst (m.get0 e))
    | frz e => exact .base (.frz (m.get0 e))
    | tup e => exact .base (.tup (m.get0 e))
    | dK e => exact .base (.dK (m.get0 e))
    | dT e => exact .base (.dT (m.get0 e))
    | ins e cl ha hn htk hm => exact .base (.ins (m.get0 e) cl ha hn htk hm)
  | byt b => exact .byt b
  | set e => exact .set (m.get0 e)
  | kList e c => exact .kList e c
  | kTuple e c => exact .kTuple e c
  | kDict e c => exact .kDict e c
  | fTuple e => exact .fTuple (m.get0 e)
  | fDict e => exact .fDict (m.get0 e)
end
theorem kk_NoneType_tuple : kitB "NoneType" "tuple" = some false := by decide +kernel
theorem kk_NoneType_list : kitB "NoneType" "list" = some false := by decide +kernel
theorem kk_NoneType_str : kitB "NoneType" "str" = some false := by decide +kernel
theorem kk_NoneType_bool : kitB "NoneType" "bool" = some false := by decide +kernel
theorem kk_NoneType_int : kitB "NoneType" "int" = some false := by decide +kernel
theorem kk_bool_tuple : kitB "bool" "tuple" = some false := by decide +kernel
theorem kk_bool_list : kitB "bool" "list" = some false := by decide +kernel
theorem kk_bool_str : kitB "bool" "str" = some false := by decide +kernel
theorem kk_bool_bool : kitB "bool" "bool" = some true := by decide +kernel
theorem kk_bool_int : kitB "bool" "int" = some true := by decide +kernel
theorem kk_int_tuple : kitB "int" "tuple" = some false := by decide +kernel
theorem kk_int_list : kitB "int" "list" = some false := by decide +kernel
theorem kk_int_str : kitB "int" "str" = some false := by decide +kernel
theorem kk_int_bool : kitB "int" "bool" = some false := by decide +kernel
theorem kk_int_int : kitB "int" "int" = some true := by decide +kernel
theorem kk_str_tuple : kitB "str" "tuple" = some false := by decide +kernel
theorem kk_str_list : kitB "str" "list" = some false := by decide +kernel
theorem kk_str_str : kitB "str" "str" = some true := by decide +kernel
theorem kk_str_bool : kitB "str" "bool" = some false := by decide +kernel
theorem kk_str_int : kitB "str" "int" = some false := by decide +kernel
theorem kk_list_tuple : kitB "list" "tuple" = some false := by decide +kernel
theorem kk_list_list : kitB "list" "list" = some true := by decide +kernel
theorem kk_list_str : kitB "list" "str" = some false := by decide +kernel
theorem kk_list_bool : kitB "list" "bool" = some false := by decide +kernel
theorem kk_list_int : kitB "list" "int" = some false := by decide +kernel
theorem kk_tuple_tuple : kitB "tuple" "tuple" = some true := by decide +kernel
theorem kk_tuple_list : kitB "tuple" "list" = some false := by decide +kernel
theorem kk_tuple_str : kitB "tuple" "str" = some false := by decide +kernel
theorem kk_tuple_bool : kitB "tuple" "bool" = some false := by decide +kernel
theorem kk_tuple_int : kitB "tuple" "int" = some false := by decide +kernel
/-- the type's name of a datum -/
def tyOf : PyData → String
  | .none => "NoneType"
  | .bool _ => "bool"
  | .int _ => "int"
  | .str _ => "str"
  | .list _ => "list"
  | .tuple _ => "tuple"
  | .dict _ => "dict"
theorem Dp_ty {K : PySem.W.Frag} {H : Hp} {v : V} {d : PyData} (h : Dp K H v d) : TyX K H v (.type (tyOf d)) := by
  cases h with
  | non => exact .base .non
  | bl b => exact .base (.bl b)
  | int i => exact .base (.int i)
  | str z => exact .base (.str z)
  | lst h _ => exact tyL h
  | tup h _ => exact tyT h
end Fk

set_option maxRecDepth 100000
namespace Fk
open PySem PySem.Spec PyProof.Rows L2
theorem Room.units65 {k : Nat} {A : Around} (r : Room k A) : A.units + 65 < cLine := by have := r.un; omega
/-! ### isinstance of the error that a suite holds -/
def rIsX (K : PySem.W.Frag) (cls : Value) (d : Option Addr) (a : Addr) : List V → Hp → VK → Prop := fun xs H Q => ∃ D, cls = .ref D ∧ d = none ∧ ExcC K D ∧ rIsE K D a xs H Q
theorem cIsX {X : Cx} (K : PySem.W.Frag) {a : Addr} {oe : Obj} {cls : Value} {d : Option Addr} {pn : List (Addr × Obj)} (hz : Zc cls d oe) (hf : ∃ vs, oe.data = .fields vs) (e : X.K = K := by rfl) :
    CallR (X.suite a ((a, oe) :: pn)) (.builtin "isinstance") (rIsX K cls d a) := by
  intro pins s σ H xs us Q I r h
  obtain ⟨D, rfl, rfl, C, h⟩ := h
  subst e
  exact call_isE C hz hf pins s σ H xs us Q I r h
theorem g_isX {K : PySem.W.Frag} {D a C : Addr} {H : Hp} {Q : VK} {b : Bool} (E : ExcC K D) (h : PySem.W.kitOne K (.ref D) (.ref C) = some b) (k : Q (.bl b) H) : rIsX K (.ref D) none a [.ref a, .ref C] H Q :=
  ⟨D, rfl, rfl, E, .ref C, .ref C, b, rfl, fun _ r => r, h, k⟩
theorem g_isXt {K : PySem.W.Frag} {D a : Addr} {t : String} {H : Hp} {Q : VK} {b : Bool} (E : ExcC K D) (h : PySem.W.kitOne K (.ref D) (.type t) = some b) (k : Q (.bl b) H) : rIsX K (.ref D) none a [.ref a, .ty t] H Q :=
  ⟨D, rfl, rfl, E, .ty t, .type t, b, rfl, fun _ r => r, h, k⟩
/-! ### xs.count(y), flat items -/
def rCntF (K : PySem.W.Frag) : V → List V → Hp → VK → Prop := fun x xs H Q => ∃ (p : Addr) (ys : List V) (y : V), x = .ref p ∧ xs = [y] ∧ SqL K H p ys ∧ flatV y = true ∧ ys.all flatV = true ∧ Q (.int (ys.countP fun z => eqV z y : Nat)) H
theorem countP_eqU {y : V} : ∀ {ys : List V} {us : List Value}, Vals ys us → ys.all flatV = true → us.countP (eqU y) = ys.countP fun z => eqV z y
  | _, _, .nil, _ => rfl
  | _, _, .cons (a := a) r t, f => by
    rename_i b xs us
    have f2 : flatV a = true ∧ xs.all flatV = true := by simpa using f
    rw [List.countP_cons, List.countP_cons, countP_eqU t f2.2, eqU_of r f2.1]
theorem mtCountF {X : Cx} (K : PySem.W.Frag) (e : X.K = K := by rfl) : MtR X "list.count" (rCntF K) := by
  subst e
  intro pins s σ H x xs v us Q I rx rxs h
  obtain ⟨p, ys, y, rfl, rfl, hs, fy, fa, q⟩ := h
  cases rx
  obtain ⟨u, rfl, ru⟩ := rxs.one
  obtain ⟨its, rv, ⟨⟨cls, dd, data, sl⟩, n, ho, hc, hdn, hd⟩, hlen⟩ := I.list hs
  simp only at hc hd
  subst hc hd
  refine call_meets PySem.F.slot_list_count ⟨_, ho, rfl⟩ PySem.F.entry_list_count (PySem.F.args_list_count_2 _ _)
    (SeqAt.list_countAt p its.toArray n dd sl u (eqU y)) ⟨ho, fun z hz => mem_eqAt ru fy rv fa z (by simpa using hz), ?_⟩
  have ec : its.toArray.toList.countP (eqU y) = ys.countP fun z => eqV z y := countP_eqU rv fa
  refine ⟨.int (ys.countP (fun z => eqV z y) : Nat), H, I.tok _, ⟨s.toks, ?_⟩, q⟩
  show Value.int ((its.toArray.toList.countP (eqU y) : Nat) : Int) s.toks = Value.int ((ys.countP (fun z => eqV z y) : Nat) : Int) s.toks
  rw [ec]
theorem g_cntB {K : PySem.W.Frag} {H : Hp} {Q : VK} {p : Addr} {bs : List Bool} {n : Nat} (h : SqL K H p (bs.map V.bl)) (e : bs.count true = n) (k : Q (.int (n : Int)) H) : rCntF K (.ref p) [.bl true] H Q := by
  refine ⟨p, _, .bl true, rfl, rfl, h, rfl, by simp [flatV], ?_⟩
  have : (bs.map V.bl).countP (fun z => eqV z (.bl true)) = n := by
    rw [← e, List.count, List.countP_map]
    rfl
  rw [this]
  exact k
theorem mtIndexD {X : Cx} (K : PySem.W.Frag) (hu : X.A.units + 65 < cLine) (e : X.K = K := by rfl) : MtR X "list.index" (rIndexD K) := e ▸ mt_indexD hu
theorem bools_all {K : PySem.W.Frag} {H : Hp} : ∀ bs : List Bool, DpAll K H (bs.map V.bl) (bs.map PyData.bool)
  | [] => .nil
  | b :: r => .cons (.bl b) (bools_all r)
theorem lay_bools : ∀ ns : List Bool, PyData.canLayAll0 (ns.map PyData.bool) = true
  | [] => rfl
  | n :: r => by simp [PyData.canLayAll0, PyData.canLay0, lay_bools r]
theorem dep_bools : ∀ ns : List Bool, PyData.depthAll (ns.map PyData.bool) = 0
  | [] => rfl
  | n :: r => by simp [PyData.depthAll, PyData.depth, dep_bools r]
theorem g_ixB {K : PySem.W.Frag} {H : Hp} {Q : VK} {p : Addr} {bs : List Bool} {j : Nat} (h : SqL K H p (bs.map V.bl)) (hj : bs[j]? = some true) (hn : ∀ m, m < j → bs[m]? = some false) (k : Q (.int (j : Int)) H) : rIndexD K (.ref p) [.bl true] H Q := by
  refine ⟨p, .bl true, .bool true, bs.map PyData.bool, j, .bool true, rfl, rfl, .lst h (bools_all bs), .bl true, ?_, by decide, by rw [List.getElem?_map, hj]; rfl, rfl, fun m z hm hz => ?_, k⟩
  · simp [SeqAt.shaped, PyData.canLay0, lay_bools, PyData.depth, dep_bools]
  · rw [List.getElem?_map, hn m hm] at hz
    cases hz
    rfl
/-- the text's facts of a def that makes lambdas: its code object c, the table P of theirs -/
structure FcF (K : PySem.W.Frag) (mg : Str → Option Value) (x : Str) (st : Stmt) (ps : List Str) where
  a : Addr
  c : Addr
  P : Addr
  d : FuncData
  ex : ∃ (oc : Value) (od : Option Addr) (kV doc pm : Value) (an : Option Addr) (ct : Value) (osl : Array (Option Value)),
    d = PySem.W.fnOf x x (defArgs st) (defBody st) (defScope st) .none kV doc pm an (.ref c) ct ∧ K.lookup a = some ⟨oc, od, .func d, osl⟩ ∧ PySem.W.codeIn K (.ref c) x = true
  kp : PySem.W.keepIn K (.ref a) = true
  g : mg x = some (.ref a)
  b : Binds K d ps []
theorem FcF.ok {P : Program} {w : World} {K : PySem.W.Frag} {mg : Str → Option Value} {base : Heap} {x : Str} {st : Stmt} {ps N : List Str} {k : Nat} {sp : Sp} (F : FcF K mg x st ps) (S : FnScope N ps (defScope st)) (len : ∀ vs H Q E, sp vs H Q E → vs.length = ps.length)
    (hbody : ∀ (A : Around) (outer : List Env) (s : Shared) (H : Hp) (vs : List V) (Q : VK) (E : XK), Room k (A.deeper (envOfC x (defScope st) s.heap.objs.size F.a (.ref F.c))) → sp vs H Q E →
      ∃ t, PSs (cxOf (L2.CX P w) P w K mg base N x (defScope st) F.a (.ref F.c) A outer s H E) (defBody st) t ∧ t { nx := fun _ H' => Q .non H', rt := Q } (start N vs) H) : FnOk P w K mg base (L2.CX P w) (k + 1) F.a F.d ps sp := by
  obtain ⟨oc, od, kV, doc, pm, an, ct, osl, hd, lk, hcd⟩ := F.ex
  rw [hd] at lk ⊢
  exact fn_of lk hcd S len hbody
/-- what the text says of an error class over FE -/
structure ExI (K : PySem.W.Frag) (D FE : Addr) : Prop where
  c : ExcC K D
  sub : PySem.W.subIn K (.ref D) (.ref FE) = some true
  ve : PySem.W.kitOne K (.ref D) (.type "ValueError") = some true
theorem ExI.exm {K : PySem.W.Frag} {D FE : Addr} {mg : Str → Option Value} {x : Str} (E : ExI K D FE) (F : ExF K mg x FE) (hd : PySem.W.hasDictIn K FE = true) : PySem.W.exmOne K (.ref D) (.ref FE) = some true :=
  PySem.W.exm_ref F.b hd F.t E.sub
end Fk

set_option maxRecDepth 100000
namespace Fk
open PySem PySem.Spec PyProof.Rows L2
/-! ### the end: what the text's top leaves, fact by fact -/
section
variable {K : PySem.W.Frag} {h : Heap} {mg : Str → Option Value} {Goal : Prop}
theorem with_fn (X : K.In h) (G : h.Ns mainGlobals mg) (x : Str) (st : Stmt) (ps : List Str) {f : Addr} {od an : Option Addr} {osl : Array (Option Value)} {oc kV doc pm cdv ct : Value}
    (a : PySem.W.nsIn K mainGlobals x = some (some (.ref f))) (l : K.lookup f = some ⟨oc, od, .func (PySem.W.fnOf x x (defArgs st) (defBody st) (defScope st) .none kV doc pm an cdv ct), osl⟩) (c : PySem.W.codeIn K cdv x = true) (k : PySem.W.keepIn K (.ref f) = true)
    (b : ∀ (kV doc pm : Value) (an : Option Addr) (cdv ct : Value) (us : List Value), us.length = ps.length → bindArgs (PySem.W.fnOf x x (defArgs st) (defBody st) (defScope st) .none kV doc pm an cdv ct) ⟨us, []⟩ = pure (ps.zip us)) (g : FnF K mg x st ps → Goal) : Goal :=
  g ⟨f, _, fun_mk l c k, PySem.W.mg_of X G a, (fun_mk l c k).binds b⟩
theorem with_fc (X : K.In h) (G : h.Ns mainGlobals mg) (x : Str) (st : Stmt) (ps : List Str) {f c P : Addr} {od an : Option Addr} {osl : Array (Option Value)} {oc kV doc pm ct : Value}
    (a : PySem.W.nsIn K mainGlobals x = some (some (.ref f))) (l : K.lookup f = some ⟨oc, od, .func (PySem.W.fnOf x x (defArgs st) (defBody st) (defScope st) .none kV doc pm an (.ref c) ct), osl⟩) (ci : PySem.W.codeIn K (.ref c) x = true) (k : PySem.W.keepIn K (.ref f) = true)
    (b : ∀ (kV doc pm : Value) (an : Option Addr) (cdv ct : Value) (us : List Value), us.length = ps.length → bindArgs (PySem.W.fnOf x x (defArgs st) (defBody st) (defScope st) .none kV doc pm an cdv ct) ⟨us, []⟩ = pure (ps.zip us))
    (hd : PySem.W.codeHdIn K c P = true) (hT : h.get? P = some { cls := .none, data := .fields #[] }) (nP : K.lookup P = none)
    (g : ∀ F : FcF K mg x st ps, h.get? F.P = some { cls := .none, data := .fields #[] } → K.lookup F.P = none → PySem.W.CodeHd h F.c F.P → (∀ (s : Shared) (us : List Value), us.length = ps.length → BindsTo s F.d ⟨us, []⟩ (ps.zip us)) → Goal) : Goal :=
  g ⟨f, c, P, _, ⟨oc, od, kV, doc, pm, an, ct, osl, rfl, l, ci⟩, k, PySem.W.mg_of X G a, (fun_mk l ci k).binds b⟩ hT nP (PySem.W.codeHd_of_K X hd) fun s us hl => .of_eq (b _ _ _ _ _ _ us hl)
theorem with_me {C : Addr} (_ : Cls K C) (m qual : Str) (st : Stmt) (ps : List Str) {f : Addr} {od an : Option Addr} {osl : Array (Option Value)} {oc kV doc pm cdv ct : Value}
    (a : PySem.W.findIn K (.ref C) m = some (some (.ref f))) (i : PySem.W.isFn K (.ref f) = true) (l : K.lookup f = some ⟨oc, od, .func (PySem.W.fnOf m qual (defArgs st) (defBody st) (defScope st) .none kV doc pm an cdv ct), osl⟩) (c : PySem.W.codeIn K cdv qual = true) (k : PySem.W.keepIn K (.ref f) = true)
    (b : ∀ (kV doc pm : Value) (an : Option Addr) (cdv ct : Value) (us : List Value), us.length = ps.length → bindArgs (PySem.W.fnOf m qual (defArgs st) (defBody st) (defScope st) .none kV doc pm an cdv ct) ⟨us, []⟩ = pure (ps.zip us)) (g : MeF K C m qual st ps → Goal) : Goal :=
  g ⟨f, _, fun_mk l c k, ⟨a, i, k⟩, (fun_mk l c k).binds b⟩
theorem with_md {C : Addr} (_ : Cls K C) (m qual : Str) (st : Stmt) (ps : List Str) (n : Nat) {f T0 : Addr} {od od0 an : Option Addr} {osl osl0 : Array (Option Value)} {oc oc0 kV doc pm cdv ct : Value} {n0 : Nat}
    (a : PySem.W.findIn K (.ref C) m = some (some (.ref f))) (i : PySem.W.isFn K (.ref f) = true) (l : K.lookup f = some ⟨oc, od, .func (PySem.W.fnOf m qual (defArgs st) (defBody st) (defScope st) (.ref T0) kV doc pm an cdv ct), osl⟩) (c : PySem.W.codeIn K cdv qual = true) (k : PySem.W.keepIn K (.ref f) = true)
    (l0 : K.lookup T0 = some ⟨oc0, od0, .seq #[.none] n0, osl0⟩) (hn : n + 1 = ps.length)
    (b : ∀ (T : Addr) (kV doc pm : Value) (an : Option Addr) (cdv ct : Value) (us its : List Value), us.length = ps.length → its.length = 1 →
      ∃ k, bindArgs (PySem.W.fnOf m qual (defArgs st) (defBody st) (defScope st) (.ref T) kV doc pm an cdv ct) ⟨us, []⟩ = seqItems? (.ref T) >>= k ∧ k (some its.toArray) = pure (ps.zip (us ++ its.drop 1)))
    (b1 : ∀ (T : Addr) (kV doc pm : Value) (an : Option Addr) (cdv ct : Value) (us its : List Value), us.length = n → its.length = 1 →
      ∃ k, bindArgs (PySem.W.fnOf m qual (defArgs st) (defBody st) (defScope st) (.ref T) kV doc pm an cdv ct) ⟨us, []⟩ = seqItems? (.ref T) >>= k ∧ k (some its.toArray) = pure (ps.zip (us ++ its.drop 0)))
    (g : MdF K C m qual st ps → Goal) : Goal := by
  have F : FunD K m qual (defArgs st) (defBody st) (defScope st) [.non] [] f (PySem.W.fnOf m qual (defArgs st) (defBody st) (defScope st) (.ref T0) kV doc pm an cdv ct) :=
    ⟨⟨oc, od, _, kV, doc, pm, an, cdv, ct, osl, rfl, l, c, .inr ⟨by simp, T0, _, [.none], n0, rfl, l0, rfl, .cons rfl .nil⟩, .inl rfl⟩, k⟩
  obtain ⟨ds, v, e⟩ := F.binds1 (ps := ps) ps.length 1 (by simp) (by simp) b
  obtain ⟨ds1, v1, e1⟩ := F.binds1 (ps := ps) n 0 (by simp) (by simpa using hn) b1
  cases v
  exact g ⟨f, _, F, ⟨a, i, k⟩, e, ds1, v1, e1⟩
theorem with_ex (X : K.In h) (G : h.Ns mainGlobals mg) (x : Str) {C : Addr} (a : PySem.W.nsIn K mainGlobals x = some (some (.ref C))) (e : PySem.W.excIn K C [.type "ValueError", .type "Exception", .type "BaseException", .type "object"] "ValueError.__new__" = true)
    (k : PySem.W.keepIn K (.ref C) = true) (b : PySem.W.subIn K (.ref C) (.type "BaseException") = some true) (t : PySem.W.typeIn K (.ref C) = some (.type "type")) (g : ExF K mg x C → Goal) : Goal :=
  g ⟨PySem.W.mg_of X G a, e, k, b, t⟩
theorem with_ei {D FE : Addr} {x y : Str} (_ : ExF K mg x D) (_ : ExF K mg y FE) (h1 : PySem.W.findIn K (.ref D) "__getattribute__" = some (some (.builtin "BaseException.__getattribute__"))) (h2 : PySem.W.findIn K (.ref D) "__getattr__" = some none) (h3 : PySem.W.subIn K (.ref D) (.type "BaseException") = some true) (h4 : PySem.W.hasDictIn K D = true)
    (h5 : PySem.W.findIn K (.ref D) "__class__" = some (some (.builtin "object.__class__"))) (h6 : PySem.W.specialIn K (.builtin "object.__class__") "__get__" = some (some (.builtin "getset_descriptor.__get__"))) (h7 : PySem.W.takesIn K (.builtin "object.__class__") = some true) (h8 : PySem.W.mroIn K D (.type "object") = some true)
    (h9 : PySem.W.subIn K (.ref D) (.ref FE) = some true) (h10 : PySem.W.kitOne K (.ref D) (.type "ValueError") = some true) (g : ExI K D FE → Goal) : Goal := g ⟨⟨h1, h2, h3, h4, h5, h6, h7, h8⟩, h9, h10⟩
theorem with_cl (X : K.In h) (G : h.Ns mainGlobals mg) (x : Str) {C : Addr} (a : PySem.W.nsIn K mainGlobals x = some (some (.ref C))) (h1 : PySem.W.plainGet K C Str.empty = true) (h2 : PySem.W.hasDictIn K C = true) (h3 : PySem.W.plainOver K C = true)
    (h4 : PySem.W.findIn K (.ref C) "__setattr__" = some (some (.builtin "object.__setattr__"))) (h5 : PySem.W.makesIn K C = true) (h6 : PySem.W.keepIn K (.ref C) = true) (g : Cls K C → mg x = some (.ref C) → PySem.W.makesIn K C = true → PySem.W.keepIn K (.ref C) = true → Goal) : Goal :=
  g ⟨h1, h2, h3, h4⟩ (PySem.W.mg_of X G a) h5 h6
theorem with_na {C : Addr} (_ : Cls K C) (f : Str) (a : PySem.W.findIn K (.ref C) f = some none) (g : NoAttr K C f → Goal) : Goal := g a
theorem with_bl (X : K.In h) (G : h.Ns mainGlobals mg) (x : Str) (a : PySem.W.nsIn K mainGlobals x = some none) (g : mg x = none → Goal) : Goal := g (PySem.W.mg_none_of X G a)
theorem with_co (X : K.In h) (G : h.Ns mainGlobals mg) (x : Str) (v : Int) {t : Tok} (a : PySem.W.nsIn K mainGlobals x = some (some (.int v t))) (g : (∃ t, mg x = some (.int v t)) → Goal) : Goal := g ⟨t, PySem.W.mg_of X G a⟩
theorem with_eq {p : Prop} (a : p) (g : p → Goal) : Goal := g a
end
end Fk

set_option maxRecDepth 100000
namespace Fk
open PySem PySem.Spec PyProof.Rows L2
/-! ### the end, where several defs make lambdas -/
theorem with_fcE {K : PySem.W.Frag} {h : Heap} {mg : Str → Option Value} {Goal : Prop} (X : K.In h) (G : h.Ns mainGlobals mg) (x : Str) (st : Stmt) (ps : List Str) {f c P : Addr} {od an : Option Addr} {osl : Array (Option Value)} {oc kV doc pm ct : Value}
    (a : PySem.W.nsIn K mainGlobals x = some (some (.ref f))) (l : K.lookup f = some ⟨oc, od, .func (PySem.W.fnOf x x (defArgs st) (defBody st) (defScope st) .none kV doc pm an (.ref c) ct), osl⟩) (ci : PySem.W.codeIn K (.ref c) x = true) (k : PySem.W.keepIn K (.ref f) = true)
    (b : ∀ (kV doc pm : Value) (an : Option Addr) (cdv ct : Value) (us : List Value), us.length = ps.length → bindArgs (PySem.W.fnOf x x (defArgs st) (defBody st) (defScope st) .none kV doc pm an cdv ct) ⟨us, []⟩ = pure (ps.zip us))
    (hd : PySem.W.codeHdIn K c P = true) (hT : h.get? P = some { cls := .none, data := .fields #[] }) (nP : K.lookup P = none)
    (g : ∀ F : FcF K mg x st ps, F.P = P → h.get? F.P = some { cls := .none, data := .fields #[] } → K.lookup F.P = none → PySem.W.CodeHd h F.c F.P → (∀ (s : Shared) (us : List Value), us.length = ps.length → BindsTo s F.d ⟨us, []⟩ (ps.zip us)) → Goal) : Goal :=
  g ⟨f, c, P, _, ⟨oc, od, kV, doc, pm, an, ct, osl, rfl, l, ci⟩, k, PySem.W.mg_of X G a, (fun_mk l ci k).binds b⟩ rfl hT nP (PySem.W.codeHd_of_K X hd) fun s us hl => .of_eq (b _ _ _ _ _ _ us hl)
theorem with_fnB {K : PySem.W.Frag} {h : Heap} {mg : Str → Option Value} {Goal : Prop} (X : K.In h) (G : h.Ns mainGlobals mg) (x : Str) (st : Stmt) (ps : List Str) {f : Addr} {od an : Option Addr} {osl : Array (Option Value)} {oc kV doc pm cdv ct : Value}
    (a : PySem.W.nsIn K mainGlobals x = some (some (.ref f))) (l : K.lookup f = some ⟨oc, od, .func (PySem.W.fnOf x x (defArgs st) (defBody st) (defScope st) .none kV doc pm an cdv ct), osl⟩) (c : PySem.W.codeIn K cdv x = true) (k : PySem.W.keepIn K (.ref f) = true)
    (b : ∀ (kV doc pm : Value) (an : Option Addr) (cdv ct : Value) (us : List Value), us.length = ps.length → bindArgs (PySem.W.fnOf x x (defArgs st) (defBody st) (defScope st) .none kV doc pm an cdv ct) ⟨us, []⟩ = pure (ps.zip us))
    (g : ∀ F : FnF K mg x st ps, (∀ (s : Shared) (us : List Value), us.length = ps.length → BindsTo s F.d ⟨us, []⟩ (ps.zip us)) → Goal) : Goal :=
  g ⟨f, _, fun_mk l c k, PySem.W.mg_of X G a, (fun_mk l c k).binds b⟩ fun s us hl => .of_eq (b _ _ _ _ _ _ us hl)
theorem FcF.cl {P : Program} {w : World} {K : PySem.W.Frag} {mg : Str → Option Value} {base : Heap} {x : Str} {st : Stmt} {ps : List Str} {k : Nat} {sp : Sp} (F : FcF K mg x st ps) (h : FnOk P w K mg base (L2.CX P w) k F.a F.d ps sp) : Cl P w K mg base k x sp [] :=
  ⟨F.a, F.d, ps, [], h, F.g, F.kp, F.b, .nil⟩
/-! ### a dict's copy, tuples joined -/
def rDictD : List V → Hp → VK → Prop := fun xs H Q => ∃ (a : Addr) (kvs : List (Key × V)), xs = [.ref a] ∧ Rd H a (.dK kvs) ∧ ∀ p, H p = none → Q (.ref p) (upd H p (.dK kvs))
theorem cDictD {X : Cx} : CallR X (.type "dict") rDictD := call_dictD
theorem g_dictD {a : Addr} {kvs : List (Key × V)} {H : Hp} {Q : VK} (h : H a = some (.dK kvs)) (k : ∀ p H', H p = none → Mx [] H H' → H' p = some (.dK kvs) → Q (.ref p) H') : rDictD [.ref a] H Q := ⟨a, kvs, rfl, .inl h, fun p hp => k p _ hp (.new hp) upd_same⟩
theorem g_joinT {K : PySem.W.Frag} {x y : Addr} {xs ys : List V} {H : Hp} {Q : VK} (h1 : SqT K H x xs) (h2 : SqT K H y ys) (n1 : xs ≠ []) (n2 : ys ≠ []) (hl : xs.length + ys.length ≤ 100000) (k : ∀ p H', H p = none → Mx [] H H' → H' p = some (.tup (xs ++ ys)) → Q (.ref p) H') : rCatT K (.ref x) (.ref y) H Q :=
  ⟨x, y, xs, ys, rfl, rfl, h1, h2, n1, lineS hl, fun z => absurd z n2, fun _ p hp => k p _ hp (.new hp) upd_same⟩
/-! ### sets' lengths, dicts of lists -/
section
variable {X : Cx} (K : PySem.W.Frag)
theorem lenSetK {a : Expr} {ta : TE} {p p2 q pos : Pos} (hg : Gl X "len") (hm : X.mg "len" = none) (hg2 : Gl X "set") (hm2 : X.mg "set" = none) (ha : PE X a ta) (hc : X.calm = true := by rfl) (e : X.K = K := by rfl)
    (na : starEach [a] X.env = (false, eval a X.env) :: starEach [] X.env := by rfl) : PE X (.Call (.Name "len" p) [.Call (.Name "set" p2) [a] [] q] [] pos) (RZ.tLenSetI K ta) := e ▸ RZ.pe_lenSetI hg hm hg2 hm2 ha hc na
def rSortD : List V → Hp → VK → Prop := fun xs H Q => ∃ (a : Addr) (kvs : List (Key × V)) (ks : List Int), xs = [.ref a] ∧ Rd H a (.dK kvs) ∧ kvs.map (·.1) = ks.map Sum.inl ∧ ks.length < 64 ∧ ∀ (ys : List Int) (p : Addr), ys.Perm ks → ys.Pairwise (· ≤ ·) → H p = none → Q (.ref p) (upd H p (.lst (ys.map V.int)))
theorem cSortD {X : Cx} (hc : X.calm = true) : CallR X (.builtin "sorted") rSortD := call_sortedDI hc
def rDictP (K : PySem.W.Frag) : List V → Hp → VK → Prop := fun xs H Q => ∃ (a : Addr) (ps : List Addr) (kvs : List (Key × V)), xs = [.ref a] ∧ SqL K H a (ps.map V.ref) ∧ Paired (fun p kv => SqT K H p [kV kv.1, kv.2]) ps kvs ∧ ∀ p, H p = none → Q (.ref p) (upd H p (.dK (mergeK [] kvs)))
theorem cDictP (hc : X.calm = true) (e : X.K = K := by rfl) : CallR X (.type "dict") (rDictP K) := e ▸ call_dictP hc
end
section
variable {K : PySem.W.Frag} {σ : L2.St} {H : Hp} {Q : VK} {QB : Bool → Hp → Prop}
def kLenSet (K : PySem.W.Frag) (Q : VK) : VK := fun x H1 => ∃ (l : Addr) (ns : List Int), x = .ref l ∧ SqL K H1 l (ns.map V.int) ∧ ns.Nodup ∧ ns.length ≤ 4000 ∧ Q (.int (ns.length : Nat)) H1
theorem g_lenSet {ta : TE} (k : ta σ H (kLenSet K Q)) : RZ.tLenSetI K ta σ H Q := k
def kDNi (y : V) (Q : VK) : VK := fun x H2 => ∃ a o, x = .ref a ∧ DGet H2 a y o ∧ Q (.bl (!o.isSome)) H2
theorem g_dni {ty td : TE} (k : ty σ H fun y H1 => td σ H1 (kDNi y Q)) : tDNotIn ty td σ H Q := k
theorem g_kDNi {a : Addr} {i : Int} {kvs : List (Key × V)} (h : H a = some (.dK kvs)) (k : Q (.bl (!(valV kvs (Sum.inl i)).isSome)) H) : kDNi (.int i) Q (.ref a) H := ⟨a, _, rfl, .k (k := Sum.inl i) h, k⟩
theorem g_kDPutI {v : V} {a : Addr} {i : Int} {kvs kvs' : List (Key × V)} {N : Hp → Prop} (h : H a = some (.dK kvs)) (e : putK kvs (Sum.inl i) v = kvs') (hl : kvs.length ≤ 100) (k : ∀ H', Mx [a] H H' → H' a = some (.dK kvs') → N H') : (∃ a' H4, V.ref a = .ref a' ∧ DPut H a' (.int i) v H4 ∧ N H4) :=
  ⟨a, _, rfl, DPut.k (k := Sum.inl i) h (lineL (by omega)), k _ (.put (by simp)) (by rw [upd_same, e])⟩
/-- a dict by its keys in order -/
def kvO (ms : List Int) (a : Int → Addr) : List (Key × V) := ms.map fun m => (Sum.inl m, V.ref (a m))
theorem kvO_get {a : Int → Addr} {m : Int} : ∀ {ms : List Int}, m ∈ ms → valV (kvO ms a) (Sum.inl m) = some (.ref (a m))
  | x :: ms, h => by
    unfold kvO
    rw [List.map_cons]
    by_cases e : x = m
    · subst e; exact valV_pos rfl
    · rw [valV_neg (by simp; exact e)]
      refine kvO_get (ms := ms) ?_
      rcases List.mem_cons.mp h with z | z
      · exact absurd z.symm e
      · exact z
theorem kvO_no {a : Int → Addr} {m : Int} : ∀ {ms : List Int}, m ∉ ms → valV (kvO ms a) (Sum.inl m) = none
  | [], _ => rfl
  | x :: ms, h => by
    unfold kvO
    rw [List.map_cons, valV_neg (by simp; exact fun z => h (by simp [z]))]
    exact kvO_no (ms := ms) fun z => h (List.mem_cons_of_mem _ z)
theorem kvO_in {a : Int → Addr} {m : Int} {ms : List Int} : (valV (kvO ms a) (Sum.inl m)).isSome = decide (m ∈ ms) := by
  by_cases h : m ∈ ms
  · rw [kvO_get h]; simp [h]
  · rw [kvO_no h]; simp [h]
theorem kvO_put {a : Int → Addr} {m : Int} {p : Addr} {ms : List Int} (h : m ∈ ms) : putK (kvO ms a) (Sum.inl m) (.ref p) = kvO ms (fun j => if j = m then p else a j) := by
  unfold putK
  rw [if_pos (by rw [valV_any, kvO_get h]; rfl)]
  unfold kvO
  rw [List.map_map]
  apply List.map_congr_left
  intro x _
  by_cases e : x = m
  · simp [e]
  · simp [e]
theorem kvO_len {a : Int → Addr} {ms : List Int} : (kvO ms a).length = ms.length := by unfold kvO; rw [List.length_map]
theorem kvO_new {a : Int → Addr} : ∀ {ms : List Int} {acc : List Int}, (acc ++ ms).Nodup → (kvO ms a).foldl (fun acc kv => putK acc kv.1 kv.2) (kvO acc a) = kvO (acc ++ ms) a
  | [], acc, _ => by rw [List.append_nil]; rfl
  | m :: ms, acc, nd => by
    have hm : m ∉ acc := fun h => by
      rw [List.nodup_append] at nd
      exact nd.2.2 m h m (by simp) rfl
    have e : putK (kvO acc a) (Sum.inl m) (.ref (a m)) = kvO (acc ++ [m]) a := by
      unfold putK
      rw [if_neg (by rw [valV_any, kvO_no hm]; simp)]
      unfold kvO
      rw [List.map_append]
      rfl
    show (kvO ms a).foldl _ (putK (kvO acc a) (Sum.inl m) (.ref (a m))) = _
    rw [e, kvO_new (ms := ms) (acc := acc ++ [m]) (by rw [List.append_assoc]; exact nd), List.append_assoc]
    rfl
theorem kvO_merge {a : Int → Addr} {ms : List Int} (nd : ms.Nodup) : mergeK [] (kvO ms a) = kvO ms a := kvO_new (acc := []) (by simpa using nd)
end
end Fk

set_option maxRecDepth 100000
namespace Fk
open PySem PySem.Spec PyProof.Rows L2
/-! ### the sum of a tuple of ints -/
def rSumT (K : PySem.W.Frag) : List V → Hp → VK → Prop := fun vs H Q => ∃ (a : Addr) (ns : List Int), vs = [.ref a] ∧ SqT K H a (ns.map V.int) ∧ Q (.int ns.sum) H
theorem cSumT {X : Cx} (K : PySem.W.Frag) (hc : X.calm = true) (e : X.K = K := by rfl) : CallR X (.builtin "sum") (rSumT K) := by
  subst e
  intro pins s σ H vs us Q I r h
  obtain ⟨a, ns, ev, hs, q⟩ := h
  subst ev
  obtain ⟨its, rv, ⟨o, ho, hcl, n, hd⟩, _⟩ := I.tuple hs
  rw [Vals.ref1 r]
  have hi := rv.ints
  obtain ⟨xs, ex⟩ := hi.allInts.items
  have hn : numsOf (intItems xs).toList = ns := ex ▸ hi.numsOf
  rw [nums_intItems] at hn
  rw [ex] at hd
  have ht : s.heap.IsTuple a (intItems xs) := ⟨o, ho, hcl, n, hd⟩
  refine PySem.W.ktm_sumG (I.ok.hd hc) ht fun h' tk t' hk => ⟨.int _, H, I.kept hk, ⟨t', ?_⟩, q⟩
  rw [preSum_eq, List.take_of_length_le (by simp), hn]
theorem g_sumT {K : PySem.W.Frag} {H : Hp} {Q : VK} {a : Addr} {ns : List Int} (h : SqT K H a (ns.map V.int)) (k : Q (.int ns.sum) H) : rSumT K [.ref a] H Q := ⟨a, ns, rfl, h, k⟩
end Fk

set_option maxRecDepth 100000
namespace Fk
open PySem PySem.Spec PyProof.Rows L2
/-! ### the text by places -/
def top (i : Nat) : Stmt := PySem.Challenge.pw_frankmeter_k11_whole_moved_from_one_to_a.main.body.getD i (.Pass ⟨0, 0, 0, 0⟩)
abbrev s_sign_of : Stmt := top 15
abbrev N_sign_of : List Str := ["key", "meter", "count", "amount", "kind"]
theorem sc_sign_of : FnScope N_sign_of ["key", "meter", "count", "amount", "kind"] (defScope s_sign_of) := ⟨rfl, rfl, rfl, by decide +kernel, rfl, by decide +kernel, by decide +kernel⟩
abbrev s_code_of : Stmt := top 16
abbrev N_code_of : List Str := ["key", "meter", "count", "amount", "kind"]
theorem sc_code_of : FnScope N_code_of ["key", "meter", "count", "amount", "kind"] (defScope s_code_of) := ⟨rfl, rfl, rfl, by decide +kernel, rfl, by decide +kernel, by decide +kernel⟩
abbrev s_is_amount : Stmt := top 17
abbrev N_is_amount : List Str := ["amount"]
theorem sc_is_amount : FnScope N_is_amount ["amount"] (defScope s_is_amount) := ⟨rfl, rfl, rfl, by decide +kernel, rfl, by decide +kernel, by decide +kernel⟩
abbrev s_need_amount : Stmt := top 18
abbrev N_need_amount : List Str := ["amount"]
theorem sc_need_amount : FnScope N_need_amount ["amount"] (defScope s_need_amount) := ⟨rfl, rfl, rfl, by decide +kernel, rfl, by decide +kernel, by decide +kernel⟩
abbrev s_is_good : Stmt := top 19
abbrev N_is_good : List Str := ["key", "code", "meter", "count", "kind"]
theorem sc_is_good : FnScope N_is_good ["key", "code", "meter", "count", "kind"] (defScope s_is_good) := ⟨rfl, rfl, rfl, by decide +kernel, rfl, by decide +kernel, by decide +kernel⟩
abbrev s_at_first : Stmt := top 31
abbrev N_at_first : List Str := []
theorem sc_at_first : FnScope N_at_first [] (defScope s_at_first) := ⟨rfl, rfl, rfl, by decide +kernel, rfl, by decide +kernel, by decide +kernel⟩
abbrev s_standing : Stmt := top 32
abbrev N_standing : List Str := ["cells", "whole", "bank"]
theorem sc_standing : FnScope N_standing ["cells"] (defScope s_standing) := ⟨rfl, rfl, rfl, by decide +kernel, rfl, by decide +kernel, by decide +kernel⟩
abbrev s_bank_of : Stmt := top 33
abbrev N_bank_of : List Str := ["cells", "bank"]
theorem sc_bank_of : FnScope N_bank_of ["cells"] (defScope s_bank_of) := ⟨rfl, rfl, rfl, by decide +kernel, rfl, by decide +kernel, by decide +kernel⟩
abbrev s_steps_to : Stmt := top 34
abbrev N_steps_to : List Str := ["cells", "changes", "begin", "bank", "place", "number", "found"]
theorem sc_steps_to : FnScope N_steps_to ["cells", "changes"] (defScope s_steps_to) := ⟨rfl, rfl, rfl, by decide +kernel, rfl, by decide +kernel, by decide +kernel⟩
abbrev s_need_key : Stmt := top 38
abbrev N_need_key : List Str := ["key"]
theorem sc_need_key : FnScope N_need_key ["key"] (defScope s_need_key) := ⟨rfl, rfl, rfl, by decide +kernel, rfl, by decide +kernel, by decide +kernel⟩
abbrev s_need_number : Stmt := top 39
abbrev N_need_number : List Str := ["number"]
theorem sc_need_number : FnScope N_need_number ["number"] (defScope s_need_number) := ⟨rfl, rfl, rfl, by decide +kernel, rfl, by decide +kernel, by decide +kernel⟩
abbrev s_Meter___init__ : Stmt := inClass (top 40) 0
abbrev N_Meter___init__ : List Str := ["self", "number", "key"]
theorem sc_Meter___init__ : FnScope N_Meter___init__ ["self", "number", "key"] (defScope s_Meter___init__) := ⟨rfl, rfl, rfl, by decide +kernel, rfl, by decide +kernel, by decide +kernel⟩
abbrev s_Meter_number : Stmt := inClass (top 40) 1
abbrev N_Meter_number : List Str := ["self"]
theorem sc_Meter_number : FnScope N_Meter_number ["self"] (defScope s_Meter_number) := ⟨rfl, rfl, rfl, by decide +kernel, rfl, by decide +kernel, by decide +kernel⟩
abbrev s_Meter_is_up : Stmt := inClass (top 40) 4
abbrev N_Meter_is_up : List Str := ["self"]
theorem sc_Meter_is_up : FnScope N_Meter_is_up ["self"] (defScope s_Meter_is_up) := ⟨rfl, rfl, rfl, by decide +kernel, rfl, by decide +kernel, by decide +kernel⟩
abbrev s_Meter_sums : Stmt := inClass (top 40) 5
abbrev N_Meter_sums : List Str := ["self", "bank"]
theorem sc_Meter_sums : FnScope N_Meter_sums ["self"] (defScope s_Meter_sums) := ⟨rfl, rfl, rfl, by decide +kernel, rfl, by decide +kernel, by decide +kernel⟩
abbrev s_Meter_need_up : Stmt := inClass (top 40) 6
abbrev N_Meter_need_up : List Str := ["self"]
theorem sc_Meter_need_up : FnScope N_Meter_need_up ["self"] (defScope s_Meter_need_up) := ⟨rfl, rfl, rfl, by decide +kernel, rfl, by decide +kernel, by decide +kernel⟩
abbrev s_Meter_write : Stmt := inClass (top 40) 7
abbrev N_Meter_write : List Str := ["self", "changes", "cut", "cell", "number"]
theorem sc_Meter_write : FnScope N_Meter_write ["self", "changes", "cut"] (defScope s_Meter_write) := ⟨rfl, rfl, rfl, by decide +kernel, rfl, by decide +kernel, by decide +kernel⟩
abbrev s_Meter_owed : Stmt := inClass (top 40) 8
abbrev N_Meter_owed : List Str := ["self", "bank", "last"]
theorem sc_Meter_owed : FnScope N_Meter_owed ["self"] (defScope s_Meter_owed) := ⟨rfl, rfl, rfl, by decide +kernel, rfl, by decide +kernel, by decide +kernel⟩
abbrev s_Meter_print_owed : Stmt := inClass (top 40) 9
abbrev N_Meter_print_owed : List Str := ["self", "cut", "found"]
theorem sc_Meter_print_owed : FnScope N_Meter_print_owed ["self", "cut"] (defScope s_Meter_print_owed) := ⟨rfl, rfl, rfl, by decide +kernel, rfl, by decide +kernel, by decide +kernel⟩
abbrev s_Meter_stamp : Stmt := inClass (top 40) 10
abbrev N_Meter_stamp : List Str := ["self", "amount", "cut", "bank", "number", "changes", "left"]
theorem sc_Meter_stamp : FnScope N_Meter_stamp ["self", "amount", "cut"] (defScope s_Meter_stamp) := ⟨rfl, rfl, rfl, by decide +kernel, rfl, by decide +kernel, by decide +kernel⟩
abbrev s_Meter_top_up : Stmt := inClass (top 40) 11
abbrev N_Meter_top_up : List Str := ["self", "code", "cut", "bank", "changes"]
theorem sc_Meter_top_up : FnScope N_Meter_top_up ["self", "code", "cut"] (defScope s_Meter_top_up) := ⟨rfl, rfl, rfl, by decide +kernel, rfl, by decide +kernel, by decide +kernel⟩
abbrev s_Meter_give_back : Stmt := inClass (top 40) 12
abbrev N_Meter_give_back : List Str := ["self", "amount", "cut", "bank", "changes"]
theorem sc_Meter_give_back : FnScope N_Meter_give_back ["self", "amount", "cut"] (defScope s_Meter_give_back) := ⟨rfl, rfl, rfl, by decide +kernel, rfl, by decide +kernel, by decide +kernel⟩
abbrev s_Meter_last_back : Stmt := inClass (top 40) 13
abbrev N_Meter_last_back : List Str := ["self", "bank"]
theorem sc_Meter_last_back : FnScope N_Meter_last_back ["self"] (defScope s_Meter_last_back) := ⟨rfl, rfl, rfl, by decide +kernel, rfl, by decide +kernel, by decide +kernel⟩
abbrev s_Meter_come_up : Stmt := inClass (top 40) 14
abbrev N_Meter_come_up : List Str := ["self", "cut"]
theorem sc_Meter_come_up : FnScope N_Meter_come_up ["self", "cut"] (defScope s_Meter_come_up) := ⟨rfl, rfl, rfl, by decide +kernel, rfl, by decide +kernel, by decide +kernel⟩
abbrev s_House___init__ : Stmt := inClass (top 43) 0
abbrev N_House___init__ : List Str := ["self", "key", "meters", "meter"]
theorem sc_House___init__ : FnScope N_House___init__ ["self", "key", "meters"] (defScope s_House___init__) := ⟨rfl, rfl, rfl, by decide +kernel, rfl, by decide +kernel, by decide +kernel⟩
abbrev s_House_funds : Stmt := inClass (top 43) 1
abbrev N_House_funds : List Str := ["self"]
theorem sc_House_funds : FnScope N_House_funds ["self"] (defScope s_House_funds) := ⟨rfl, rfl, rfl, by decide +kernel, rfl, by decide +kernel, by decide +kernel⟩
abbrev s_House_bought : Stmt := inClass (top 43) 2
abbrev N_House_bought : List Str := ["self"]
theorem sc_House_bought : FnScope N_House_bought ["self"] (defScope s_House_bought) := ⟨rfl, rfl, rfl, by decide +kernel, rfl, by decide +kernel, by decide +kernel⟩
abbrev s_House_buy : Stmt := inClass (top 43) 3
abbrev N_House_buy : List Str := ["self", "amount"]
theorem sc_House_buy : FnScope N_House_buy ["self", "amount"] (defScope s_House_buy) := ⟨rfl, rfl, rfl, by decide +kernel, rfl, by decide +kernel, by decide +kernel⟩
abbrev s_House_need_meter : Stmt := inClass (top 43) 4
abbrev N_House_need_meter : List Str := ["self", "meter"]
theorem sc_House_need_meter : FnScope N_House_need_meter ["self", "meter"] (defScope s_House_need_meter) := ⟨rfl, rfl, rfl, by decide +kernel, rfl, by decide +kernel, by decide +kernel⟩
abbrev s_House_issue : Stmt := inClass (top 43) 5
abbrev N_House_issue : List Str := ["self", "meter", "amount", "code"]
theorem sc_House_issue : FnScope N_House_issue ["self", "meter", "amount"] (defScope s_House_issue) := ⟨rfl, rfl, rfl, by decide +kernel, rfl, by decide +kernel, by decide +kernel⟩
abbrev s_House_last_code : Stmt := inClass (top 43) 6
abbrev N_House_last_code : List Str := ["self", "meter"]
theorem sc_House_last_code : FnScope N_House_last_code ["self", "meter"] (defScope s_House_last_code) := ⟨rfl, rfl, rfl, by decide +kernel, rfl, by decide +kernel, by decide +kernel⟩
abbrev s_House_take_back : Stmt := inClass (top 43) 7
abbrev N_House_take_back : List Str := ["self", "code", "meter"]
theorem sc_House_take_back : FnScope N_House_take_back ["self", "code"] (defScope s_House_take_back) := ⟨rfl, rfl, rfl, by decide +kernel, rfl, by decide +kernel, by decide +kernel⟩
abbrev s_House_out : Stmt := inClass (top 43) 8
abbrev N_House_out : List Str := ["self", "found", "meter", "code"]
theorem sc_House_out : FnScope N_House_out ["self"] (defScope s_House_out) := ⟨rfl, rfl, rfl, by decide +kernel, rfl, by decide +kernel, by decide +kernel⟩
abbrev s_accounts : Stmt := top 44
abbrev N_accounts : List Str := ["house", "meters", "rows", "meter", "credit", "row", "falling"]
theorem sc_accounts : FnScope N_accounts ["house", "meters"] (defScope s_accounts) := ⟨rfl, rfl, rfl, by decide +kernel, rfl, by decide +kernel, by decide +kernel⟩
abbrev s__law_start : Stmt := top 46
abbrev N__law_start : List Str := ["_law_script", "_law_mixed", "_law_cell"]
theorem sc__law_start : FnScope N__law_start ["_law_script"] (defScope s__law_start) := ⟨rfl, rfl, rfl, by decide +kernel, rfl, by decide +kernel, by decide +kernel⟩
abbrev s__law_drawn : Stmt := top 47
abbrev N__law_drawn : List Str := ["_law_state", "_law_many", "_law_found", "_law_cell"]
theorem sc__law_drawn : FnScope N__law_drawn ["_law_state", "_law_many"] (defScope s__law_drawn) := ⟨rfl, rfl, rfl, by decide +kernel, rfl, by decide +kernel, by decide +kernel⟩
abbrev s__law_kind : Stmt := top 48
abbrev N__law_kind : List Str := ["_law_work", "e", "_law_kinds", "_law_words"]
theorem sc__law_kind : FnScope N__law_kind ["_law_work"] (defScope s__law_kind) := ⟨rfl, rfl, rfl, by decide +kernel, rfl, by decide +kernel, by decide +kernel⟩
abbrev s__law_amount : Stmt := top 49
abbrev N__law_amount : List Str := ["_law_state"]
theorem sc__law_amount : FnScope N__law_amount ["_law_state"] (defScope s__law_amount) := ⟨rfl, rfl, rfl, by decide +kernel, rfl, by decide +kernel, by decide +kernel⟩
abbrev s__law_numbers : Stmt := top 50
abbrev N__law_numbers : List Str := ["_law_state", "_law_many", "_law_first", "_law_step", "_law_k"]
theorem sc__law_numbers : FnScope N__law_numbers ["_law_state", "_law_many"] (defScope s__law_numbers) := ⟨rfl, rfl, rfl, by decide +kernel, rfl, by decide +kernel, by decide +kernel⟩
abbrev s__law_filled : Stmt := top 51
abbrev N__law_filled : List Str := ["_law_state", "_law_house", "_law_meter", "_law_turn", "_law_amount_here", "_law_code", "_law_before"]
theorem sc__law_filled : FnScope N__law_filled ["_law_state", "_law_house", "_law_meter"] (defScope s__law_filled) := ⟨rfl, rfl, rfl, by decide +kernel, rfl, by decide +kernel, by decide +kernel⟩
abbrev s_law : Stmt := top 52
abbrev N_law : List Str := ["_law_script", "_law_state", "_law_numbers_here", "_law_key", "_law_house", "_law_one", "_law_other", "_law_ahead", "_law_amount_here", "_law_cut", "_law_back", "_law_meter", "_law_code", "_law_due", "_law_found"]
theorem sc_law : FnScope N_law ["_law_script"] (defScope s_law) := ⟨rfl, rfl, rfl, by decide +kernel, rfl, by decide +kernel, by decide +kernel⟩
/-! ### what the text's top leaves -/
structure Tx (K : PySem.W.Frag) (mg : Str → Option Value) where
  g_WHEEL : ∃ t, mg "WHEEL" = some (.int 999983 t)
  g_TOP : ∃ t, mg "TOP" = some (.int 1 t)
  g_BACK : ∃ t, mg "BACK" = some (.int 2 t)
  g_MOST_AMOUNT : ∃ t, mg "MOST_AMOUNT" = some (.int 99999 t)
  g_WIDE : ∃ t, mg "WIDE" = some (.int 10 t)
  g_TURN : ∃ t, mg "TURN" = some (.int 1 t)
  g_RISING : ∃ t, mg "RISING" = some (.int 2 t)
  g_FALLING : ∃ t, mg "FALLING" = some (.int 3 t)
  g_CREDIT : ∃ t, mg "CREDIT" = some (.int 4 t)
  g_TOPS : ∃ t, mg "TOPS" = some (.int 5 t)
  g_BACKS : ∃ t, mg "BACKS" = some (.int 6 t)
  g_GIVEN : ∃ t, mg "GIVEN" = some (.int 7 t)
  g_STAMP : ∃ t, mg "STAMP" = some (.int 8 t)
  g_AMOUNT : ∃ t, mg "AMOUNT" = some (.int 9 t)
  g_MOST_NUMBER : ∃ t, mg "MOST_NUMBER" = some (.int 9999 t)
  g_MOST_KEY : ∃ t, mg "MOST_KEY" = some (.int 999981 t)
  g_MOST_METERS : ∃ t, mg "MOST_METERS" = some (.int 4 t)
  n_ValueError : mg "ValueError" = none
  n_dict : mg "dict" = none
  n_isinstance : mg "isinstance" = none
  n_len : mg "len" = none
  n_min : mg "min" = none
  n_range : mg "range" = none
  n_set : mg "set" = none
  n_sum : mg "sum" = none
  E_FrankError : Addr
  x_FrankError : ExF K mg "FrankError" E_FrankError
  E_NoBank : Addr
  x_NoBank : ExF K mg "NoBank" E_NoBank
  E_BadNumber : Addr
  x_BadNumber : ExF K mg "BadNumber" E_BadNumber
  E_BadAmount : Addr
  x_BadAmount : ExF K mg "BadAmount" E_BadAmount
  E_BadCode : Addr
  x_BadCode : ExF K mg "BadCode" E_BadCode
  E_Short : Addr
  x_Short : ExF K mg "Short" E_Short
  E_Down : Addr
  x_Down : ExF K mg "Down" E_Down
  E_Up : Addr
  x_Up : ExF K mg "Up" E_Up
  E_NoMeter : Addr
  x_NoMeter : ExF K mg "NoMeter" E_NoMeter
  hd_FrankError : PySem.W.hasDictIn K E_FrankError = true
  i_NoBank : ExI K E_NoBank E_FrankError
  i_BadNumber : ExI K E_BadNumber E_FrankError
  i_BadAmount : ExI K E_BadAmount E_FrankError
  i_BadCode : ExI K E_BadCode E_FrankError
  i_Short : ExI K E_Short E_FrankError
  i_Down : ExI K E_Down E_FrankError
  i_Up : ExI K E_Up E_FrankError
  i_NoMeter : ExI K E_NoMeter E_FrankError
  kt_NoBank_NoBank : PySem.W.kitOne K (.ref E_NoBank) (.ref E_NoBank) = some true
  kt_NoBank_BadNumber : PySem.W.kitOne K (.ref E_NoBank) (.ref E_BadNumber) = some false
  kt_NoBank_BadAmount : PySem.W.kitOne K (.ref E_NoBank) (.ref E_BadAmount) = some false
  kt_NoBank_BadCode : PySem.W.kitOne K (.ref E_NoBank) (.ref E_BadCode) = some false
  kt_NoBank_Short : PySem.W.kitOne K (.ref E_NoBank) (.ref E_Short) = some false
  kt_NoBank_Down : PySem.W.kitOne K (.ref E_NoBank) (.ref E_Down) = some false
  kt_NoBank_Up : PySem.W.kitOne K (.ref E_NoBank) (.ref E_Up) = some false
  kt_NoBank_NoMeter : PySem.W.kitOne K (.ref E_NoBank) (.ref E_NoMeter) = some false
  kt_BadNumber_NoBank : PySem.W.kitOne K (.ref E_BadNumber) (.ref E_NoBank) = some false
  kt_BadNumber_BadNumber : PySem.W.kitOne K (.ref E_BadNumber) (.ref E_BadNumber) = some true
  kt_BadNumber_BadAmount : PySem.W.kitOne K (.ref E_BadNumber) (.ref E_BadAmount) = some false
  kt_BadNumber_BadCode : PySem.W.kitOne K (.ref E_BadNumber) (.ref E_BadCode) = some false
  kt_BadNumber_Short : PySem.W.kitOne K (.ref E_BadNumber) (.ref E_Short) = some false
  kt_BadNumber_Down : PySem.W.kitOne K (.ref E_BadNumber) (.ref E_Down) = some false
  kt_BadNumber_Up : PySem.W.kitOne K (.ref E_BadNumber) (.ref E_Up) = some false
  kt_BadNumber_NoMeter : PySem.W.kitOne K (.ref E_BadNumber) (.ref E_NoMeter) = some false
  kt_BadAmount_NoBank : PySem.W.kitOne K (.ref E_BadAmount) (.ref E_NoBank) = some false
  kt_BadAmount_BadNumber : PySem.W.kitOne K (.ref E_BadAmount) (.ref E_BadNumber) = some false
  kt_BadAmount_BadAmount : PySem.W.kitOne K (.ref E_BadAmount) (.ref E_BadAmount) = some true
  kt_BadAmount_BadCode : PySem.W.kitOne K (.ref E_BadAmount) (.ref E_BadCode) = some false
  kt_BadAmount_Short : PySem.W.kitOne K (.ref E_BadAmount) (.ref E_Short) = some false
  kt_BadAmount_Down : PySem.W.kitOne K (.ref E_BadAmount) (.ref E_Down) = some false
  kt_BadAmount_Up : PySem.W.kitOne K (.ref E_BadAmount) (.ref E_Up) = some false
  kt_BadAmount_NoMeter : PySem.W.kitOne K (.ref E_BadAmount) (.ref E_NoMeter) = some false
  kt_BadCode_NoBank : PySem.W.kitOne K (.ref E_BadCode) (.ref E_NoBank) = some false
  kt_BadCode_BadNumber : PySem.W.kitOne K (.ref E_BadCode) (.ref E_BadNumber) = some false
  kt_BadCode_BadAmount : PySem.W.kitOne K (.ref E_BadCode) (.ref E_BadAmount) = some false
  kt_BadCode_BadCode : PySem.W.kitOne K (.ref E_BadCode) (.ref E_BadCode) = some true
  kt_BadCode_Short : PySem.W.kitOne K (.ref E_BadCode) (.ref E_Short) = some false
  kt_BadCode_Down : PySem.W.kitOne K (.ref E_BadCode) (.ref E_Down) = some false
  kt_BadCode_Up : PySem.W.kitOne K (.ref E_BadCode) (.ref E_Up) = some false
  kt_BadCode_NoMeter : PySem.W.kitOne K (.ref E_BadCode) (.ref E_NoMeter) = some false
  kt_Short_NoBank : PySem.W.kitOne K (.ref E_Short) (.ref E_NoBank) = some false
  kt_Short_BadNumber : PySem.W.kitOne K (.ref E_Short) (.ref E_BadNumber) = some false
  kt_Short_BadAmount : PySem.W.kitOne K (.ref E_Short) (.ref E_BadAmount) = some false
  kt_Short_BadCode : PySem.W.kitOne K (.ref E_Short) (.ref E_BadCode) = some false
  kt_Short_Short : PySem.W.kitOne K (.ref E_Short) (.ref E_Short) = some true
  kt_Short_Down : PySem.W.kitOne K (.ref E_Short) (.ref E_Down) = some false
  kt_Short_Up : PySem.W.kitOne K (.ref E_Short) (.ref E_Up) = some false
  kt_Short_NoMeter : PySem.W.kitOne K (.ref E_Short) (.ref E_NoMeter) = some false
  kt_Down_NoBank : PySem.W.kitOne K (.ref E_Down) (.ref E_NoBank) = some false
  kt_Down_BadNumber : PySem.W.kitOne K (.ref E_Down) (.ref E_BadNumber) = some false
  kt_Down_BadAmount : PySem.W.kitOne K (.ref E_Down) (.ref E_BadAmount) = some false
  kt_Down_BadCode : PySem.W.kitOne K (.ref E_Down) (.ref E_BadCode) = some false
  kt_Down_Short : PySem.W.kitOne K (.ref E_Down) (.ref E_Short) = some false
  kt_Down_Down : PySem.W.kitOne K (.ref E_Down) (.ref E_Down) = some true
  kt_Down_Up : PySem.W.kitOne K (.ref E_Down) (.ref E_Up) = some false
  kt_Down_NoMeter : PySem.W.kitOne K (.ref E_Down) (.ref E_NoMeter) = some false
  kt_Up_NoBank : PySem.W.kitOne K (.ref E_Up) (.ref E_NoBank) = some false
  kt_Up_BadNumber : PySem.W.kitOne K (.ref E_Up) (.ref E_BadNumber) = some false
  kt_Up_BadAmount : PySem.W.kitOne K (.ref E_Up) (.ref E_BadAmount) = some false
  kt_Up_BadCode : PySem.W.kitOne K (.ref E_Up) (.ref E_BadCode) = some false
  kt_Up_Short : PySem.W.kitOne K (.ref E_Up) (.ref E_Short) = some false
  kt_Up_Down : PySem.W.kitOne K (.ref E_Up) (.ref E_Down) = some false
  kt_Up_Up : PySem.W.kitOne K (.ref E_Up) (.ref E_Up) = some true
  kt_Up_NoMeter : PySem.W.kitOne K (.ref E_Up) (.ref E_NoMeter) = some false
  kt_NoMeter_NoBank : PySem.W.kitOne K (.ref E_NoMeter) (.ref E_NoBank) = some false
  kt_NoMeter_BadNumber : PySem.W.kitOne K (.ref E_NoMeter) (.ref E_BadNumber) = some false
  kt_NoMeter_BadAmount : PySem.W.kitOne K (.ref E_NoMeter) (.ref E_BadAmount) = some false
  kt_NoMeter_BadCode : PySem.W.kitOne K (.ref E_NoMeter) (.ref E_BadCode) = some false
  kt_NoMeter_Short : PySem.W.kitOne K (.ref E_NoMeter) (.ref E_Short) = some false
  kt_NoMeter_Down : PySem.W.kitOne K (.ref E_NoMeter) (.ref E_Down) = some false
  kt_NoMeter_Up : PySem.W.kitOne K (.ref E_NoMeter) (.ref E_Up) = some false
  kt_NoMeter_NoMeter : PySem.W.kitOne K (.ref E_NoMeter) (.ref E_NoMeter) = some true
  C_Meter : Addr
  cls_Meter : Cls K C_Meter
  g_Meter : mg "Meter" = some (.ref C_Meter)
  mk_Meter_ : PySem.W.makesIn K C_Meter = true
  kc_Meter : PySem.W.keepIn K (.ref C_Meter) = true
  na_Meter_own : NoAttr K C_Meter "own"
  na_Meter_key : NoAttr K C_Meter "key"
  na_Meter_memory : NoAttr K C_Meter "memory"
  na_Meter_prints : NoAttr K C_Meter "prints"
  na_Meter_awake : NoAttr K C_Meter "awake"
  C_House : Addr
  cls_House : Cls K C_House
  g_House : mg "House" = some (.ref C_House)
  mk_House_ : PySem.W.makesIn K C_House = true
  kc_House : PySem.W.keepIn K (.ref C_House) = true
  na_House_key : NoAttr K C_House "key"
  na_House_money : NoAttr K C_House "money"
  na_House_spent : NoAttr K C_House "spent"
  na_House_issues : NoAttr K C_House "issues"
  na_House_taken : NoAttr K C_House "taken"
  f_sign_of : FnF K mg "sign_of" s_sign_of ["key", "meter", "count", "amount", "kind"]
  f_code_of : FnF K mg "code_of" s_code_of ["key", "meter", "count", "amount", "kind"]
  f_is_amount : FnF K mg "is_amount" s_is_amount ["amount"]
  f_need_amount : FnF K mg "need_amount" s_need_amount ["amount"]
  f_is_good : FnF K mg "is_good" s_is_good ["key", "code", "meter", "count", "kind"]
  f_at_first : FnF K mg "at_first" s_at_first []
  f_standing : FnF K mg "standing" s_standing ["cells"]
  f_bank_of : FnF K mg "bank_of" s_bank_of ["cells"]
  f_steps_to : FnF K mg "steps_to" s_steps_to ["cells", "changes"]
  f_need_key : FnF K mg "need_key" s_need_key ["key"]
  f_need_number : FnF K mg "need_number" s_need_number ["number"]
  m_Meter___init__ : MeF K C_Meter "__init__" "Meter.__init__" s_Meter___init__ ["self", "number", "key"]
  m_Meter_number : MeF K C_Meter "number" "Meter.number" s_Meter_number ["self"]
  m_Meter_is_up : MeF K C_Meter "is_up" "Meter.is_up" s_Meter_is_up ["self"]
  m_Meter_sums : MeF K C_Meter "sums" "Meter.sums" s_Meter_sums ["self"]
  m_Meter_need_up : MeF K C_Meter "need_up" "Meter.need_up" s_Meter_need_up ["self"]
  m_Meter_write : MeF K C_Meter "write" "Meter.write" s_Meter_write ["self", "changes", "cut"]
  m_Meter_owed : MeF K C_Meter "owed" "Meter.owed" s_Meter_owed ["self"]
  m_Meter_print_owed : MeF K C_Meter "print_owed" "Meter.print_owed" s_Meter_print_owed ["self", "cut"]
  m_Meter_stamp : MdF K C_Meter "stamp" "Meter.stamp" s_Meter_stamp ["self", "amount", "cut"]
  m_Meter_top_up : MdF K C_Meter "top_up" "Meter.top_up" s_Meter_top_up ["self", "code", "cut"]
  m_Meter_give_back : MdF K C_Meter "give_back" "Meter.give_back" s_Meter_give_back ["self", "amount", "cut"]
  m_Meter_last_back : MeF K C_Meter "last_back" "Meter.last_back" s_Meter_last_back ["self"]
  m_Meter_come_up : MdF K C_Meter "come_up" "Meter.come_up" s_Meter_come_up ["self", "cut"]
  m_House___init__ : MeF K C_House "__init__" "House.__init__" s_House___init__ ["self", "key", "meters"]
  m_House_funds : MeF K C_House "funds" "House.funds" s_House_funds ["self"]
  m_House_bought : MeF K C_House "bought" "House.bought" s_House_bought ["self"]
  m_House_buy : MeF K C_House "buy" "House.buy" s_House_buy ["self", "amount"]
  m_House_need_meter : MeF K C_House "need_meter" "House.need_meter" s_House_need_meter ["self", "meter"]
  m_House_issue : MeF K C_House "issue" "House.issue" s_House_issue ["self", "meter", "amount"]
  m_House_last_code : MeF K C_House "last_code" "House.last_code" s_House_last_code ["self", "meter"]
  m_House_take_back : MeF K C_House "take_back" "House.take_back" s_House_take_back ["self", "code"]
  m_House_out : MeF K C_House "out" "House.out" s_House_out ["self"]
  f_accounts : FnF K mg "accounts" s_accounts ["house", "meters"]
  f__law_start : FnF K mg "_law_start" s__law_start ["_law_script"]
  f__law_drawn : FnF K mg "_law_drawn" s__law_drawn ["_law_state", "_law_many"]
  f__law_kind : FnF K mg "_law_kind" s__law_kind ["_law_work"]
  f__law_amount : FnF K mg "_law_amount" s__law_amount ["_law_state"]
  f__law_numbers : FnF K mg "_law_numbers" s__law_numbers ["_law_state", "_law_many"]
  f__law_filled : FnF K mg "_law_filled" s__law_filled ["_law_state", "_law_house", "_law_meter"]
  f_law : FcF K mg "law" s_law ["_law_script"]
end Fk

set_option maxHeartbeats 4000000
namespace Fk
open PySem PySem.Spec PyProof.Rows L2
local macro_rules | `(tactic| wtm_at "ln") => `(tactic| first
  | omega
  | (simp only [List.length_cons, List.length_nil, List.length_map, List.length_append, List.length_replicate, List.length_take, List.length_drop, List.length_set]; omega)
  | (with_unfolding_all exact (by decide)))
local macro_rules | `(tactic| wtm_at "ar") => `(tactic| first
  | ((with_reducible show CMulW _ _); (refine' mulS ?_ ?_ <;> omega))
  | ((with_reducible show CDivW _ _); (refine' divS ?_ ?_ <;> omega))
  | ((with_reducible show CPow _ _); exact ⟨by decide, by decide, by decide⟩)
  | (show (0 : Int) < _; omega)
  | (with_unfolding_all exact (by decide)))
local macro_rules | `(tactic| wtm_at "at") => `(tactic| first
  | assumption
  | (refine' cl_atE ?e80 ?h80; (case' e80 => first | exact rfl | assumption); (case' h80 => wtm_at "ln"))
  | exact rfl)
local macro_rules | `(tactic| wtm_at "fr") => `(tactic| first
  | assumption
  | ((with_reducible refine' Mx.free0 ?m99 ?h99); (case' h99 => assumption); (case' m99 => wtm_at "mo")))
local macro_rules | `(tactic| wtm_at "hp") => `(tactic| first
  | assumption
  | ((with_reducible refine' Mx.get0 ?m1 ?h1); (case' m1 => assumption); (case' h1 => wtm_at "hp"))
  | ((with_reducible refine' Mx.get ?m2 ?n2 ?h2); (case' m2 => assumption); (case' n2 => wtm_at "nin"); (case' h2 => wtm_at "hp")))
local macro_rules | `(tactic| wtm_at "sl") => `(tactic| first
  | assumption
  | ((with_reducible refine' Mx.sqL0 ?m96 ?h96); (case' h96 => assumption); (case' m96 => wtm_at "mo"))
  | (refine' SqL.of ?h3; (case' h3 => wtm_at "hp"))
  | ((with_reducible refine' Mx.sqL0 ?m4 ?h4); (case' m4 => assumption); (case' h4 => wtm_at "sl"))
  | ((with_reducible refine' Mx.sqL ?m5 ?n5 ?h5); (case' m5 => assumption); (case' n5 => wtm_at "nin"); (case' h5 => wtm_at "sl")))
local macro_rules | `(tactic| wtm_at "st") => `(tactic| first
  | assumption
  | ((with_reducible refine' Mx.sqT0 ?m97 ?h97); (case' h97 => assumption); (case' m97 => wtm_at "mo"))
  | (refine' SqT.of ?h6; (case' h6 => wtm_at "hp"))
  | ((with_reducible refine' Mx.sqT0 ?m7 ?h7); (case' m7 => assumption); (case' h7 => wtm_at "st"))
  | ((with_reducible refine' Mx.sqT ?m8 ?n8 ?h8); (case' m8 => assumption); (case' n8 => wtm_at "nin"); (case' h8 => wtm_at "st")))
local macro_rules | `(tactic| wtm_at "mx") => `(tactic| first
  | assumption
  | exact Mx.refl
  | ((with_reducible refine' Mx.of0 ?h9); (case' h9 => assumption))
  | ((with_reducible refine' Mx.trans ?h10 ?m10); (case' m10 => first | assumption | ((with_reducible refine' Mx.of0 ?q10); (case' q10 => assumption))); (case' h10 => wtm_at "mx")))
local macro_rules | `(tactic| wtm_at "mo") => `(tactic| first
  | wtm_at "mx"
  | ((with_reducible refine' Mx.own ?m90 ?f90 ?k90); (case' k90 => assumption); (case' f90 => wtm_at "fr"); (case' m90 => wtm_at "mo"))
  | ((with_reducible refine' Mx.trans ?h91 ?m91); (case' m91 => first | assumption | ((with_reducible refine' Mx.of0 ?q91); (case' q91 => assumption))); (case' h91 => wtm_at "mo")))
local macro_rules | `(tactic| wtm_at "ne") => `(tactic| first
  | assumption
  | exact Ne.symm (by assumption)
  | ((with_reducible refine' ne_of_none ?x94 ?y94); (case' y94 => assumption); (case' x94 => wtm_at "hp"))
  | ((with_reducible refine' Ne.symm (ne_of_none ?x95 ?y95)); (case' y95 => assumption); (case' x95 => wtm_at "hp")))
local macro_rules | `(tactic| wtm_at "nin") => `(tactic| first
  | assumption
  | exact List.not_mem_nil
  | ((with_reducible refine' List.not_mem_cons_of_ne_of_not_mem ?h98 ?t98); (case' h98 => wtm_at "ne"); (case' t98 => wtm_at "nin")))
local macro_rules | `(tactic| wtm_at "g1") => `(tactic| first
  | ((with_reducible refine' g_var ?h11 ?k11); (case' h11 => exact rfl))
  | with_reducible refine' g_c ?_
  | with_reducible refine' g_op ?_
  | with_reducible refine' g_I0 ?_
  | ((with_reducible refine' g_I ?c12 ?k12); (case' c12 => wtm_at "ar"))
  | with_reducible refine' g_cons ?_
  | with_reducible refine' g_nil ?_
  | with_reducible refine' g_seq ?_
  | with_reducible refine' g_asg ?_
  | with_reducible refine' g_name ?_
  | with_reducible refine' g_ret ?_
  | with_reducible refine' g_if ?_
  | with_reducible refine' g_test ?_
  | with_reducible refine' g_tB ?_
  | with_reducible refine' g_bl ?_
  | ((with_reducible refine' g_eq ?h13 ?k13); (case' h13 => exact rfl))
  | ((with_reducible refine' g_ne ?h14 ?k14); (case' h14 => exact rfl))
  | with_reducible refine' g_CB ?_
  | with_reducible refine' g_call ?_
  | with_reducible refine' g_drop ?_
  | with_reducible refine' g_next ?_
  | with_reducible refine' g_not ?_
  | with_reducible refine' g_and ?_
  | with_reducible refine' g_or ?_
  | with_reducible refine' g_un ?_
  | with_reducible refine' g_U ?_
  | with_reducible refine' g_tup ?_
  | with_reducible refine' g_lst ?_
  | ((with_reducible refine' g_kNew ?h15 ?k15); (case' h15 => wtm_at "ln"); (case' k15 => intro _ _ _ _ _))
  | ((with_reducible refine' g_ixL ?h16 ?a16 ?k16); (case' h16 => wtm_at "sl"); (case' a16 => wtm_at "at"))
  | ((with_reducible refine' g_ixT ?h17 ?a17 ?k17); (case' h17 => wtm_at "st"); (case' a17 => wtm_at "at"))
  | with_reducible refine' g_slice ?_
  | with_reducible refine' g_part ?_
  | with_reducible refine' g_kPart ?_
  | with_reducible refine' g_noPart ?_
  | ((with_reducible refine' g_slL ?h18 ?k18); (case' h18 => wtm_at "sl"); (case' k18 => intro _ _ _ _ _))
  | ((with_reducible refine' g_cat ?h119 ?h219 ?l19 ?k19); (case' h119 => wtm_at "hp"); (case' h219 => wtm_at "hp"); (case' l19 => wtm_at "ln"); (case' k19 => intro _ _ _ _ _))
  | ((with_reducible refine' g_rep ?h120 ?h220 ?h320 ?l20 ?k20); (case' h120 => wtm_at "hp"); (case' h220 => wtm_at "ln"); (case' h320 => wtm_at "ln"); (case' l20 => wtm_at "ln"); (case' k20 => intro _ _ _ _ _))
  | ((with_reducible refine' g_append ?h21 ?l21 ?k21); (case' h21 => wtm_at "hp"); (case' l21 => wtm_at "ln"); (case' k21 => intro _ _ _))
  | ((with_reducible refine' g_kBM ?h22 ?k22); (case' h22 => wtm_at "sl"))
  | ((with_reducible refine' g_kBM0 ?h23 ?k23); (case' h23 => wtm_at "sl"))
  | ((with_reducible refine' g_kL ?h24 ?k24); (case' h24 => wtm_at "sl"))
  | ((with_reducible refine' g_kR1 ?h125 ?h225 ?k25); (case' h125 => wtm_at "ln"); (case' h225 => wtm_at "ln"))
  | ((with_reducible refine' g_kR2 ?h126 ?h226 ?h326 ?h426 ?k26); (case' h126 => wtm_at "ln"); (case' h226 => wtm_at "ln"); (case' h326 => wtm_at "ln"); (case' h426 => wtm_at "ln"))
  | ((with_reducible refine' g_lenL ?h27 ?k27); (case' h27 => wtm_at "sl"))
  | ((with_reducible refine' g_lenT ?h28 ?k28); (case' h28 => wtm_at "st"))
  | ((with_reducible refine' g_listL ?h29 ?k29); (case' h29 => wtm_at "sl"); (case' k29 => intro _ _ _ _ _))
  | ((with_reducible refine' g_tupleL ?h30 ?k30); (case' h30 => wtm_at "sl"); (case' k30 => intro _ _ _ _ _))
  | with_reducible refine' g_max ?_
  | with_reducible refine' g_min ?_
  | with_reducible refine' g_intB ?_
  | with_reducible refine' g_fld ?_
  | with_reducible refine' g_put ?_
  | with_reducible refine' g_dget ?_
  | with_reducible refine' g_isN ?_
  | with_reducible refine' g_notN ?_
  | with_reducible refine' g_ifE ?_
  | with_reducible refine' g_andV ?_
  | with_reducible refine' g_orV ?_
  | with_reducible refine' g_notV ?_
  | with_reducible refine' g_kIf ?_
  | with_reducible refine' g_chain ?_
  | with_reducible refine' g_kCh ?_
  | with_reducible refine' g_sub ?_
  | ((with_reducible refine' g_setI ?h92 ?e92 ?j92 ?k92); (case' h92 => wtm_at "hp"); (case' e92 => first | exact rfl | assumption); (case' j92 => wtm_at "ln"); (case' k92 => intro _ _ _))
  | ((with_reducible refine' g_setL ?h89 ?i89 ?k89); (case' h89 => wtm_at "hp"); (case' i89 => exact ixE rfl (by wtm_at "ln")); (case' k89 => intro _ _ _))
  | ((with_reducible refine' g_gtup ?h93 ?e93 ?k93); (case' h93 => wtm_at "st"); (case' e93 => exact rfl))
  | with_reducible refine' g_gcons ?_
  | with_reducible refine' g_gnil ?_
  | with_reducible refine' g_par ?_
  | with_reducible refine' g_kPar ?_
  | with_reducible refine' g_meth ?_
  | with_reducible refine' g_bm ?_
  | with_reducible refine' g_bm0 ?_
  | with_reducible refine' g_raise ?_
  | with_reducible refine' g_for ?_
  | with_reducible refine' g_iR1 ?_
  | with_reducible refine' g_iR2 ?_
  | with_reducible refine' g_iL ?_
  | with_reducible refine' g_lc ?_
  | with_reducible refine' g_retN ?_
  | with_reducible refine' g_no (b := false) rfl ?_
  | with_reducible refine' g_yes (b := true) rfl ?_)
local macro_rules | `(tactic| wtm_at "go") => `(tactic| repeat (wtm_at "g1"))
local macro_rules | `(tactic| wtm_at "gs") => `(tactic| repeat ((fail_if_success (with_reducible refine' g_ifE ?_)); wtm_at "g1"))
local macro_rules | `(tactic| wtm_at "gi") => `(tactic| repeat ((fail_if_success (with_reducible refine' g_if ?_)); wtm_at "g1"))
local macro_rules | `(tactic| wtm_at "gr") => `(tactic| repeat ((fail_if_success (with_reducible refine' g_ret ?_)); wtm_at "g1"))
local macro_rules | `(tactic| wtm_at "gq") => `(tactic| repeat ((fail_if_success (with_reducible refine' g_asg ?_)); wtm_at "g1"))
/-! ### banks -/
/-- which bank stands, where one does -/
def stand (cs : List Int) : Nat := if cl cs 0 = 1 ∧ ¬ (cl cs 10 = 1 ∧ cl cs 1 < cl cs 11) then 0 else 1
def Any (cs : List Int) : Prop := cs.length = 20 ∧ (cl cs 0 = 1 ∨ cl cs 10 = 1)
def bank (cs : List Int) : List Int := (cs.drop (stand cs * 10)).take 10
section
variable {P : Program} {w : World} {K : PySem.W.Frag} {mg : Str → Option Value} {base : Heap}
def spAtFirst : Sp := fun vs H Q _ => vs = [] ∧ ∀ p H', H p = none → Mx [] H H' → H' p = some (.lst (((1 : Int) :: List.replicate 19 0).map V.int)) → Q (.ref p) H'
theorem c_at_first (T : Tx K mg) : Cl P w K mg base 1 "at_first" spAtFirst [] := by
  refine T.f_at_first.cl sc_at_first (fun vs H Q E h => ?_) (fun cdv A outer s H vs Q E hr h => ?_)
  · obtain ⟨rfl, _⟩ := h
    rfl
  · obtain ⟨rfl, k⟩ := h
    refine ⟨_, (pss_one (ps_ret (pe_op op_cat (pe_lst (pa_cons pe_int pa_nil)) (pe_op op_rep (pe_lst (pa_cons pe_int pa_nil)) (pe_op op_sub (pe_op op_mulW pe_int (q_const T.g_WIDE rfl)) pe_int))))), ?_⟩
    wtm_at "go"
    exact k _ _ (by wtm_at "fr") (by wtm_at "mx") (by assumption)
/-- standing -/
def spStanding (T : Tx K mg) : Sp := fun vs H Q E => ∃ (a : Addr) (cs : List Int), vs = [.ref a] ∧ SqL K H a (cs.map V.int) ∧ cs.length ≤ 100000 ∧
  (Any cs → ∀ H', Mx [] H H' → Q (.int (stand cs)) H') ∧ (¬ Any cs → ∀ H', Mx [] H H' → E (.ref T.E_NoBank) none H')
theorem c_standing (T : Tx K mg) : Cl P w K mg base 1 "standing" (spStanding T) [] := by
  refine T.f_standing.cl sc_standing (fun vs H Q E h => ?_) (fun cdv A outer s H vs Q E hr h => ?_)
  · obtain ⟨a, cs, rfl, _⟩ := h
    rfl
  · obtain ⟨a, cs, rfl, hS, hl, k1, k2⟩ := h
    refine ⟨_, (pss_cons (ps_if (pt_cmpR op_ne (pe_callB (cLen K) (by rfl) T.n_len (by decide +kernel) (pa_cons (pv 0) pa_nil)) (pe_op op_mulW pe_int (q_const T.g_WIDE rfl)) (by first | exact nomark _ | rfl)) (pss_one (q_raise rfl (takes_of rfl rfl rfl rfl) T.x_NoBank rfl)) pss_nil)
      (pss_cons (ps_setLc (i := 1) (own := [("bank", 2)]) (g := gName 2) rfl sc_standing.nd rfl rfl (sw_true rfl rfl rfl (by decide +kernel)) (pi_range1 rfl T.n_range (pa_cons pe_int pa_nil)) (blkOk_by (own := [("bank", 2)]) (N := N_standing) (sc := defScope s_standing) (by decide +kernel)) (fun _ _ _ _ _ => pg_name (i := 2) sc_standing.nd rfl (by first | exact Or.inl rfl | exact Or.inr rfl)) (fun _ _ _ _ _ => (pts_one (pt_cmpR op_eq (pe_ix (ixL K) (pv 0) (pe_op op_mulW (pv 2) (q_const T.g_WIDE rfl)) (fun _ _ => rfl)) pe_int (by first | exact nomark _ | rfl)))) (fun _ _ _ _ _ => (pv 2)))
      (pss_cons (ps_if (pt_cmpR (opEqD K hr.units) (pv 1) (pe_lst pa_nil) (by first | exact nomark _ | rfl)) (pss_one (q_raise rfl (takes_of rfl rfl rfl rfl) T.x_NoBank rfl)) pss_nil)
      (pss_cons (ps_if (PW.pt (pw_and (pt_cmpR op_eq (pe_callB (cLen K) (by rfl) T.n_len (by decide +kernel) (pa_cons (pv 1) pa_nil)) pe_int (by first | exact nomark _ | rfl)) (pw_and1 (pt_cmpR op_lt (pe_ix (ixL K) (pv 0) (q_const T.g_TURN rfl) (fun _ _ => rfl)) (pe_ix (ixL K) (pv 0) (pe_op op_add (q_const T.g_WIDE rfl) (q_const T.g_TURN rfl)) (fun _ _ => rfl)) (by first | exact nomark _ | rfl))))) (pss_one (ps_ret pe_int)) pss_nil)
      (pss_one (ps_ret (pe_ix (ixL K) (pv 1) pe_int (fun _ _ => rfl)))))))), ?_⟩
    have W10 : (2 : Int) * 10 = 20 := rfl
    wtm_at "go"
    refine g_ite (fun e => ?_) (fun e => ?_)
    · wtm_at "go"
      refine k2 (fun z => ?_) _ Mx.refl
      have := z.1
      simp at e
      omega
    · have e20 : cs.length = 20 := by
        simp at e
        omega
      wtm_at "go"
      refine g_lcR (fun b => if cl cs (b * 10) = 1 then some (.int b) else none) (by intro x; rfl) (by decide) (fun i H' QN hi m hQ => ?_) (fun Dl H' hD m eD => ?_)
      · have ha : atI (cs.map V.int) ((0 + (i : Int)) * 10) = some (.int (cl cs (i * 10))) := cl_atE (by omega) (by omega)
        wtm_at "go"
        refine g_ite (fun e1 => ?_) (fun e1 => ?_)
        · wtm_at "go"
          refine hQ _ _ Mx.refl ?_
          simp at e1
          simp [e1]
        · refine hQ _ _ Mx.refl ?_
          simp at e1
          simp [e1]
      · have key : ∃ ws : List Int, (List.range (Int.toNat 2)).filterMap (fun b => if cl cs (b * 10) = 1 then some (V.int b) else none) = ws.map V.int ∧
            ((ws = [] ∧ ¬ cl cs 0 = 1 ∧ ¬ cl cs 10 = 1) ∨ (ws = [0] ∧ cl cs 0 = 1 ∧ ¬ cl cs 10 = 1) ∨ (ws = [1] ∧ ¬ cl cs 0 = 1 ∧ cl cs 10 = 1) ∨ (ws = [0, 1] ∧ cl cs 0 = 1 ∧ cl cs 10 = 1)) := by
          have e2 : List.range (Int.toNat 2) = [0, 1] := rfl
          rw [e2]
          by_cases h0 : cl cs 0 = 1 <;> by_cases h1 : cl cs 10 = 1
          · exact ⟨[0, 1], by simp [h0, h1], by simp [h0, h1]⟩
          · exact ⟨[0], by simp [h0, h1], by simp [h0, h1]⟩
          · exact ⟨[1], by simp [h0, h1], by simp [h0, h1]⟩
          · exact ⟨[], by simp [h0, h1], by simp [h0, h1]⟩
        obtain ⟨ws, ew, hw⟩ := key
        rw [ew] at eD
        wtm_at "go"
        refine g_eqI (ys := []) (by wtm_at "sl") (by wtm_at "sl") ?_
        wtm_at "go"
        refine g_ite (fun e1 => ?_) (fun e1 => ?_)
        · wtm_at "go"
          refine k2 (fun z => ?_) _ (by wtm_at "mx")
          simp at e1
          rcases hw with ⟨_, a1, a2⟩ | ⟨q, _⟩ | ⟨q, _⟩ | ⟨q, _⟩
          · exact z.2.elim a1 a2
          all_goals (rw [e1] at q; cases q)
        · simp at e1
          have hAny : Any cs := ⟨e20, by
            rcases hw with ⟨q, _⟩ | ⟨_, a1, _⟩ | ⟨_, _, a1⟩ | ⟨_, a1, _⟩
            · exact absurd q e1
            · exact .inl a1
            · exact .inr a1
            · exact .inl a1⟩
          wtm_at "go"
          refine g_ite (fun e2 => ?_) (fun e2 => ?_)
          · have hw2 : ws = [0, 1] ∧ cl cs 0 = 1 ∧ cl cs 10 = 1 := by
              simp at e2
              rcases hw with ⟨q, _⟩ | ⟨q, _⟩ | ⟨q, _⟩ | q
              · rw [q] at e2; simp at e2
              · rw [q] at e2; simp at e2
              · rw [q] at e2; simp at e2
              · exact q
            wtm_at "go"
            refine g_ite (fun e3 => ?_) (fun e3 => ?_)
            · wtm_at "go"
              have es : stand cs = 1 := by
                simp at e3
                unfold stand
                rw [if_neg]
                intro z
                exact z.2 ⟨hw2.2.2, e3⟩
              rw [es] at k1
              exact k1 hAny _ (by wtm_at "mx")
            · have es : stand cs = 0 := by
                simp at e3
                unfold stand
                rw [if_pos]
                refine ⟨hw2.2.1, fun z => ?_⟩
                omega
              have e4 : ws = [0, 1] := hw2.1
              subst e4
              wtm_at "go"
              rw [es] at k1
              exact k1 hAny _ (by wtm_at "mx")
          · have hw2 : (ws = [0] ∧ stand cs = 0) ∨ (ws = [1] ∧ stand cs = 1) := by
              simp at e2
              rcases hw with ⟨q, _⟩ | ⟨q, a1, a2⟩ | ⟨q, a1, a2⟩ | ⟨q, _⟩
              · exact absurd q e1
              · exact .inl ⟨q, by unfold stand; rw [if_pos ⟨a1, fun z => a2 z.1⟩]⟩
              · exact .inr ⟨q, by unfold stand; rw [if_neg fun z => a1 z.1]⟩
              · rw [q] at e2; simp at e2
            rcases hw2 with ⟨rfl, es⟩ | ⟨rfl, es⟩
            · wtm_at "go"
              rw [es] at k1
              exact k1 hAny _ (by wtm_at "mx")
            · wtm_at "go"
              rw [es] at k1
              exact k1 hAny _ (by wtm_at "mx")
end
end Fk
namespace Fk
open PySem PySem.Spec PyProof.Rows L2
local macro_rules | `(tactic| wtm_at "ln") => `(tactic| first
  | omega
  | (simp only [List.length_cons, List.length_nil, List.length_map, List.length_append, List.length_replicate, List.length_take, List.length_drop, List.length_set]; omega)
  | (with_unfolding_all exact (by decide)))
local macro_rules | `(tactic| wtm_at "ar") => `(tactic| first
  | ((with_reducible show CMulW _ _); (refine' mulS ?_ ?_ <;> omega))
  | ((with_reducible show CDivW _ _); (refine' divS ?_ ?_ <;> omega))
  | ((with_reducible show CPow _ _); exact ⟨by decide, by decide, by decide⟩)
  | (show (0 : Int) < _; omega)
  | (with_unfolding_all exact (by decide)))
local macro_rules | `(tactic| wtm_at "at") => `(tactic| first
  | assumption
  | (refine' cl_atE ?e80 ?h80; (case' e80 => first | exact rfl | assumption); (case' h80 => wtm_at "ln"))
  | exact rfl)
local macro_rules | `(tactic| wtm_at "fr") => `(tactic| first
  | assumption
  | ((with_reducible refine' Mx.free0 ?m99 ?h99); (case' h99 => assumption); (case' m99 => wtm_at "mo")))
local macro_rules | `(tactic| wtm_at "hp") => `(tactic| first
  | assumption
  | ((with_reducible refine' Mx.get0 ?m1 ?h1); (case' m1 => assumption); (case' h1 => wtm_at "hp"))
  | ((with_reducible refine' Mx.get ?m2 ?n2 ?h2); (case' m2 => assumption); (case' n2 => wtm_at "nin"); (case' h2 => wtm_at "hp")))
local macro_rules | `(tactic| wtm_at "sl") => `(tactic| first
  | assumption
  | ((with_reducible refine' Mx.sqL0 ?m96 ?h96); (case' h96 => assumption); (case' m96 => wtm_at "mo"))
  | (refine' SqL.of ?h3; (case' h3 => wtm_at "hp"))
  | ((with_reducible refine' Mx.sqL0 ?m4 ?h4); (case' m4 => assumption); (case' h4 => wtm_at "sl"))
  | ((with_reducible refine' Mx.sqL ?m5 ?n5 ?h5); (case' m5 => assumption); (case' n5 => wtm_at "nin"); (case' h5 => wtm_at "sl")))
local macro_rules | `(tactic| wtm_at "st") => `(tactic| first
  | assumption
  | ((with_reducible refine' Mx.sqT0 ?m97 ?h97); (case' h97 => assumption); (case' m97 => wtm_at "mo"))
  | (refine' SqT.of ?h6; (case' h6 => wtm_at "hp"))
  | ((with_reducible refine' Mx.sqT0 ?m7 ?h7); (case' m7 => assumption); (case' h7 => wtm_at "st"))
  | ((with_reducible refine' Mx.sqT ?m8 ?n8 ?h8); (case' m8 => assumption); (case' n8 => wtm_at "nin"); (case' h8 => wtm_at "st")))
local macro_rules | `(tactic| wtm_at "mx") => `(tactic| first
  | assumption
  | exact Mx.refl
  | ((with_reducible refine' Mx.of0 ?h9); (case' h9 => assumption))
  | ((with_reducible refine' Mx.trans ?h10 ?m10); (case' m10 => first | assumption | ((with_reducible refine' Mx.of0 ?q10); (case' q10 => assumption))); (case' h10 => wtm_at "mx")))
local macro_rules | `(tactic| wtm_at "mo") => `(tactic| first
  | wtm_at "mx"
  | ((with_reducible refine' Mx.own ?m90 ?f90 ?k90); (case' k90 => assumption); (case' f90 => wtm_at "fr"); (case' m90 => wtm_at "mo"))
  | ((with_reducible refine' Mx.trans ?h91 ?m91); (case' m91 => first | assumption | ((with_reducible refine' Mx.of0 ?q91); (case' q91 => assumption))); (case' h91 => wtm_at "mo")))
local macro_rules | `(tactic| wtm_at "ne") => `(tactic| first
  | assumption
  | exact Ne.symm (by assumption)
  | ((with_reducible refine' ne_of_none ?x94 ?y94); (case' y94 => assumption); (case' x94 => wtm_at "hp"))
  | ((with_reducible refine' Ne.symm (ne_of_none ?x95 ?y95)); (case' y95 => assumption); (case' x95 => wtm_at "hp")))
local macro_rules | `(tactic| wtm_at "nin") => `(tactic| first
  | assumption
  | exact List.not_mem_nil
  | ((with_reducible refine' List.not_mem_cons_of_ne_of_not_mem ?h98 ?t98); (case' h98 => wtm_at "ne"); (case' t98 => wtm_at "nin")))
local macro_rules | `(tactic| wtm_at "g1") => `(tactic| first
  | ((with_reducible refine' g_var ?h11 ?k11); (case' h11 => exact rfl))
  | with_reducible refine' g_c ?_
  | with_reducible refine' g_op ?_
  | with_reducible refine' g_I0 ?_
  | ((with_reducible refine' g_I ?c12 ?k12); (case' c12 => wtm_at "ar"))
  | with_reducible refine' g_cons ?_
  | with_reducible refine' g_nil ?_
  | with_reducible refine' g_seq ?_
  | with_reducible refine' g_asg ?_
  | with_reducible refine' g_name ?_
  | with_reducible refine' g_ret ?_
  | with_reducible refine' g_if ?_
  | with_reducible refine' g_test ?_
  | with_reducible refine' g_tB ?_
  | with_reducible refine' g_bl ?_
  | ((with_reducible refine' g_eq ?h13 ?k13); (case' h13 => exact rfl))
  | ((with_reducible refine' g_ne ?h14 ?k14); (case' h14 => exact rfl))
  | with_reducible refine' g_CB ?_
  | with_reducible refine' g_call ?_
  | with_reducible refine' g_drop ?_
  | with_reducible refine' g_next ?_
  | with_reducible refine' g_not ?_
  | with_reducible refine' g_and ?_
  | with_reducible refine' g_or ?_
  | with_reducible refine' g_un ?_
  | with_reducible refine' g_U ?_
  | with_reducible refine' g_tup ?_
  | with_reducible refine' g_lst ?_
  | ((with_reducible refine' g_kNew ?h15 ?k15); (case' h15 => wtm_at "ln"); (case' k15 => intro _ _ _ _ _))
  | ((with_reducible refine' g_ixL ?h16 ?a16 ?k16); (case' h16 => wtm_at "sl"); (case' a16 => wtm_at "at"))
  | ((with_reducible refine' g_ixT ?h17 ?a17 ?k17); (case' h17 => wtm_at "st"); (case' a17 => wtm_at "at"))
  | with_reducible refine' g_slice ?_
  | with_reducible refine' g_part ?_
  | with_reducible refine' g_kPart ?_
  | with_reducible refine' g_noPart ?_
  | ((with_reducible refine' g_slL ?h18 ?k18); (case' h18 => wtm_at "sl"); (case' k18 => intro _ _ _ _ _))
  | ((with_reducible refine' g_cat ?h119 ?h219 ?l19 ?k19); (case' h119 => wtm_at "hp"); (case' h219 => wtm_at "hp"); (case' l19 => wtm_at "ln"); (case' k19 => intro _ _ _ _ _))
  | ((with_reducible refine' g_rep ?h120 ?h220 ?h320 ?l20 ?k20); (case' h120 => wtm_at "hp"); (case' h220 => wtm_at "ln"); (case' h320 => wtm_at "ln"); (case' l20 => wtm_at "ln"); (case' k20 => intro _ _ _ _ _))
  | ((with_reducible refine' g_append ?h21 ?l21 ?k21); (case' h21 => wtm_at "hp"); (case' l21 => wtm_at "ln"); (case' k21 => intro _ _ _))
  | ((with_reducible refine' g_kBM ?h22 ?k22); (case' h22 => wtm_at "sl"))
  | ((with_reducible refine' g_kBM0 ?h23 ?k23); (case' h23 => wtm_at "sl"))
  | ((with_reducible refine' g_kL ?h24 ?k24); (case' h24 => wtm_at "sl"))
  | ((with_reducible refine' g_kR1 ?h125 ?h225 ?k25); (case' h125 => wtm_at "ln"); (case' h225 => wtm_at "ln"))
  | ((with_reducible refine' g_kR2 ?h126 ?h226 ?h326 ?h426 ?k26); (case' h126 => wtm_at "ln"); (case' h226 => wtm_at "ln"); (case' h326 => wtm_at "ln"); (case' h426 => wtm_at "ln"))
  | ((with_reducible refine' g_lenL ?h27 ?k27); (case' h27 => wtm_at "sl"))
  | ((with_reducible refine' g_lenT ?h28 ?k28); (case' h28 => wtm_at "st"))
  | ((with_reducible refine' g_listL ?h29 ?k29); (case' h29 => wtm_at "sl"); (case' k29 => intro _ _ _ _ _))
  | ((with_reducible refine' g_tupleL ?h30 ?k30); (case' h30 => wtm_at "sl"); (case' k30 => intro _ _ _ _ _))
  | with_reducible refine' g_max ?_
  | with_reducible refine' g_min ?_
  | with_reducible refine' g_intB ?_
  | with_reducible refine' g_fld ?_
  | with_reducible refine' g_put ?_
  | with_reducible refine' g_dget ?_
  | with_reducible refine' g_isN ?_
  | with_reducible refine' g_notN ?_
  | with_reducible refine' g_ifE ?_
  | with_reducible refine' g_andV ?_
  | with_reducible refine' g_orV ?_
  | with_reducible refine' g_notV ?_
  | with_reducible refine' g_kIf ?_
  | with_reducible refine' g_chain ?_
  | with_reducible refine' g_kCh ?_
  | with_reducible refine' g_sub ?_
  | ((with_reducible refine' g_setI ?h92 ?e92 ?j92 ?k92); (case' h92 => wtm_at "hp"); (case' e92 => first | exact rfl | assumption); (case' j92 => wtm_at "ln"); (case' k92 => intro _ _ _))
  | ((with_reducible refine' g_setL ?h89 ?i89 ?k89); (case' h89 => wtm_at "hp"); (case' i89 => exact ixE rfl (by wtm_at "ln")); (case' k89 => intro _ _ _))
  | ((with_reducible refine' g_gtup ?h93 ?e93 ?k93); (case' h93 => wtm_at "st"); (case' e93 => exact rfl))
  | with_reducible refine' g_gcons ?_
  | with_reducible refine' g_gnil ?_
  | with_reducible refine' g_par ?_
  | with_reducible refine' g_kPar ?_
  | with_reducible refine' g_meth ?_
  | with_reducible refine' g_bm ?_
  | with_reducible refine' g_bm0 ?_
  | with_reducible refine' g_raise ?_
  | with_reducible refine' g_for ?_
  | with_reducible refine' g_iR1 ?_
  | with_reducible refine' g_iR2 ?_
  | with_reducible refine' g_iL ?_
  | with_reducible refine' g_lc ?_
  | with_reducible refine' g_retN ?_
  | with_reducible refine' g_no (b := false) rfl ?_
  | with_reducible refine' g_yes (b := true) rfl ?_)
local macro_rules | `(tactic| wtm_at "go") => `(tactic| repeat (wtm_at "g1"))
local macro_rules | `(tactic| wtm_at "gs") => `(tactic| repeat ((fail_if_success (with_reducible refine' g_ifE ?_)); wtm_at "g1"))
local macro_rules | `(tactic| wtm_at "gi") => `(tactic| repeat ((fail_if_success (with_reducible refine' g_if ?_)); wtm_at "g1"))
local macro_rules | `(tactic| wtm_at "gr") => `(tactic| repeat ((fail_if_success (with_reducible refine' g_ret ?_)); wtm_at "g1"))
local macro_rules | `(tactic| wtm_at "gq") => `(tactic| repeat ((fail_if_success (with_reducible refine' g_asg ?_)); wtm_at "g1"))
theorem stand_le (cs : List Int) : stand cs ≤ 1 := by unfold stand; split <;> omega
theorem bank_len {cs : List Int} (h : cs.length = 20) : (bank cs).length = 10 := by
  have := stand_le cs
  unfold bank
  rw [List.length_take, List.length_drop]
  omega
theorem cut_bank {cs : List Int} (h : cs.length = 20) : cutV (cs.map V.int) (some ((stand cs : Int) * 10)) (some (((stand cs : Int) + 1) * 10)) = (bank cs).map V.int := by
  have hs := stand_le cs
  have e1 : ((stand cs : Int) * 10) = ((stand cs * 10 : Nat) : Int) := by omega
  have e2 : (((stand cs : Int) + 1) * 10) = (((stand cs + 1) * 10 : Nat) : Int) := by omega
  rw [e1, e2]
  unfold cutV bank
  rw [HT.sIx_nat, HT.sIx_nat, List.length_map, h, List.map_take, List.map_drop]
  congr 1
  · omega
  · congr 1
    omega
/-- the bank to be written, with some numbers changed -/
def news (cs : List Int) (chs : List (Nat × Int)) : List Int := chs.foldl (fun b c => b.set c.1 c.2) ((bank cs).set 1 (cl (bank cs) 1 + 1))
def other (cs : List Int) : Nat := (1 - stand cs) * 10
/-- the steps of writing the other bank -/
def stepsOf (cs : List Int) (chs : List (Nat × Int)) : List (Int × Int) :=
  ((other cs : Int), 0) :: ((List.range 9).map fun (k : Nat) => ((other cs : Int) + (1 + (k : Int)), cl (news cs chs) (k + 1))) ++ [((other cs : Int), 1)]
def chD (c : Nat × Int) : Int × Int := ((c.1 : Int), c.2)
def newsTo (cs : List Int) (chs : List (Nat × Int)) (i : Nat) : List Int := (chs.take i).foldl (fun b c => b.set c.1 c.2) ((bank cs).set 1 (cl (bank cs) 1 + 1))
theorem newsTo_succ {cs : List Int} {chs : List (Nat × Int)} {i : Nat} {c : Nat × Int} (h : chs[i]? = some c) : newsTo cs chs (i + 1) = (newsTo cs chs i).set c.1 c.2 := by
  unfold newsTo
  rw [List.take_add_one, h, List.foldl_append]
  rfl
theorem newsTo_len {cs : List Int} {chs : List (Nat × Int)} {i : Nat} (h : cs.length = 20) : (newsTo cs chs i).length = 10 := by
  have : ∀ (chs : List (Nat × Int)) (b : List Int), (chs.foldl (fun b c => b.set c.1 c.2) b).length = b.length := by
    intro chs
    induction chs with
    | nil => intro b; rfl
    | cons c r ih => intro b; rw [List.foldl_cons, ih, List.length_set]
  unfold newsTo
  rw [this, List.length_set, bank_len h]
theorem stepsOf_at {cs : List Int} {chs : List (Nat × Int)} {i : Nat} (h : i < 9) : (stepsOf cs chs).take (i + 1) ++ [((other cs : Int) + (1 + (i : Int)), cl (news cs chs) (1 + i))] = (stepsOf cs chs).take (i + 2) := by
  have : (stepsOf cs chs)[i + 1]? = some ((other cs : Int) + (1 + (i : Int)), cl (news cs chs) (i + 1)) := by
    unfold stepsOf
    rw [List.cons_append, List.getElem?_cons_succ, List.getElem?_append_left (by simp; omega)]
    simp [h]
  rw [Nat.add_comm 1 i, List.take_add_one (i := i + 1), this]
  rfl
theorem stepsOf_end {cs : List Int} {chs : List (Nat × Int)} : (stepsOf cs chs).take 10 ++ [((other cs : Int), 1)] = stepsOf cs chs := by
  rfl
theorem news_len {cs : List Int} {chs : List (Nat × Int)} (h : cs.length = 20) : (news cs chs).length = 10 := by
  have : ∀ (chs : List (Nat × Int)) (b : List Int), (chs.foldl (fun b c => b.set c.1 c.2) b).length = b.length := by
    intro chs
    induction chs with
    | nil => intro b; rfl
    | cons c r ih => intro b; rw [List.foldl_cons, ih, List.length_set]
  unfold news
  rw [this, List.length_set, bank_len h]
section
variable {P : Program} {w : World} {K : PySem.W.Frag} {mg : Str → Option Value} {base : Heap}
/-- bank_of -/
def spBankOf (T : Tx K mg) : Sp := fun vs H Q E => ∃ (a : Addr) (cs : List Int), vs = [.ref a] ∧ SqL K H a (cs.map V.int) ∧ cs.length ≤ 100000 ∧
  (Any cs → ∀ p H', H p = none → Mx [] H H' → H' p = some (.lst ((bank cs).map V.int)) → Q (.ref p) H') ∧ (¬ Any cs → ∀ H', Mx [] H H' → E (.ref T.E_NoBank) none H')
theorem c_bank_of (T : Tx K mg) : Cl P w K mg base 2 "bank_of" (spBankOf T) [] := by
  refine T.f_bank_of.cl sc_bank_of (fun vs H Q E h => ?_) (fun cdv A outer s H vs Q E hr h => ?_)
  · obtain ⟨a, cs, rfl, _⟩ := h
    rfl
  · obtain ⟨a, cs, rfl, hS, hl, k1, k2⟩ := h
    refine ⟨_, (pss_cons (ps_set (i := 1) sc_bank_of.nd rfl (Or.inl rfl) (q_call (c_standing T) hr (by decide) rfl (passes_call (takes_of rfl rfl rfl rfl) (fun _ _ _ _ h => h)) (pa_cons (pv 0) pa_nil)))
      (pss_one (ps_ret (pe_slice (slL K) (pv 0) (po_some (pe_op op_mulW (pv 1) (q_const T.g_WIDE rfl))) (po_some (pe_op op_mulW (pe_op op_add (pv 1) pe_int) (q_const T.g_WIDE rfl))))))), ?_⟩
    wtm_at "go"
    refine ⟨a, cs, rfl, hS, hl, fun hA H' m => ?_, fun hA H' m => k2 hA H' m⟩
    have hs := stand_le cs
    wtm_at "go"
    rw [cut_bank hA.1] at *
    exact k1 hA _ _ (by wtm_at "fr") (by wtm_at "mx") (by assumption)
/-- steps_to -/
def spStepsTo (T : Tx K mg) : Sp := fun vs H Q _ => ∃ (a b : Addr) (cs : List Int) (us : List V) (chs : List (Nat × Int)), vs = [.ref a, .ref b] ∧ SqL K H a (cs.map V.int) ∧ Any cs ∧ SqL K H b us ∧ DpAll K H us ((chs.map chD).map stD) ∧ (∀ c ∈ chs, c.1 < 10) ∧
  (∀ p H' ws, H p = none → Mx [] H H' → H' p = some (.lst ws) → DpAll K H' ws ((stepsOf cs chs).map stD) → Q (.ref p) H')
theorem c_steps_to (T : Tx K mg) : Cl P w K mg base 3 "steps_to" (spStepsTo T) [] := by
  refine T.f_steps_to.cl sc_steps_to (fun vs H Q E h => ?_) (fun cdv A outer s H vs Q E hr h => ?_)
  · obtain ⟨a, b, cs, us, chs, rfl, _⟩ := h
    rfl
  · obtain ⟨a, b, cs, us, chs, rfl, hS, hA, hB, hD, hc, k⟩ := h
    have hs := stand_le cs
    have hb := bank_len hA.1
    have hn := news_len (chs := chs) hA.1
    have hl := hA.1
    refine ⟨_, (pss_cons (ps_set (i := 2) sc_steps_to.nd rfl (Or.inl rfl) (pe_op op_mulW (pe_op op_sub pe_int (q_call (c_standing T) hr (by decide) rfl (passes_call (takes_of rfl rfl rfl rfl) (fun _ _ _ _ h => h)) (pa_cons (pv 0) pa_nil))) (q_const T.g_WIDE rfl)))
      (pss_cons (ps_set (i := 3) sc_steps_to.nd rfl (Or.inl rfl) (q_call (c_bank_of T) hr (by decide) rfl (passes_call (takes_of rfl rfl rfl rfl) (fun _ _ _ _ h => h)) (pa_cons (pv 0) pa_nil)))
      (pss_cons (ps_asg (pe_op op_add (pe_ix (ixL K) (pv 3) (q_const T.g_TURN rfl) (fun _ _ => rfl)) pe_int) (pg_sub (pv 3) (q_const T.g_TURN rfl) set_list))
      (pss_cons (ps_for (passes_of rfl) rfl (piL K (pv 1)) (pgT K 2 rfl (pgs_cons (pg_name (i := 4) sc_steps_to.nd rfl (Or.inl rfl)) (pgs_cons (pg_name (i := 5) sc_steps_to.nd rfl (Or.inl rfl)) pgs_nil)))
      (pss_one (ps_asg (pv 5) (pg_sub (pv 3) (pv 4) set_list))))
      (pss_cons (ps_set (i := 6) sc_steps_to.nd rfl (Or.inl rfl) (pe_lst (pa_cons (pe_tup (pa_cons (pv 2) (pa_cons pe_int pa_nil))) pa_nil)))
      (pss_cons (ps_for (passes_of rfl) rfl (pi_range2 rfl T.n_range (pa_cons pe_int (pa_cons (q_const T.g_WIDE rfl) pa_nil))) (pg_name (i := 4) sc_steps_to.nd rfl (Or.inl rfl))
      (pss_one (ps_expr (bmK K PySem.F.plainAttrs_list PySem.F.slot_list_append PySem.F.type_list_append mt_append (pv 6) (pa_cons (pe_tup (pa_cons (pe_op op_add (pv 2) (pv 4)) (pa_cons (pe_ix (ixL K) (pv 3) (pv 4) (fun _ _ => rfl)) pa_nil))) pa_nil)))))
      (pss_one (ps_ret (pe_op op_cat (pv 6) (pe_lst (pa_cons (pe_tup (pa_cons (pv 2) (pa_cons pe_int pa_nil))) pa_nil))))))))))), ?_⟩
    wtm_at "go"
    refine ⟨a, cs, rfl, hS, by omega, fun _ H1 m1 => ?_, fun z => absurd hA z⟩
    wtm_at "go"
    refine ⟨a, cs, rfl, by wtm_at "sl", by omega, fun _ bk H2 n2 m2 e2 => ?_, fun z => absurd hA z⟩
    wtm_at "go"
    rename_i H3 m3 e3
    have n3 : Mx [] H H3 := by wtm_at "mo"
    have eo : ((1 - (stand cs : Int)) * 10) = (other cs : Int) := by unfold other; omega
    have lu : us.length = chs.length := by have := hD.len; simpa using this
    rw [eo]
    refine g_forL (xs := us) (fun i σ' H' => ∃ x y, σ' = [some (.ref a), some (.ref b), some (.int (other cs)), some (.ref bk), x, y, none] ∧ Mx [] H H' ∧ H' bk = some (.lst ((newsTo cs chs i).map V.int)))
      ⟨none, none, rfl, n3, e3⟩ (fun i σ' H' _ hP => ?_) (fun i x σ' H' hx hP => ?_) (fun σ' H' hP => ?_)
    · obtain ⟨_, _, _, m, _⟩ := hP
      exact m.sqL0 hB
    · obtain ⟨x0, y0, rfl, m, e⟩ := hP
      obtain ⟨d, hd, hv⟩ := hD.get' hx
      rw [List.map_map, List.getElem?_map, Option.map_eq_some_iff] at hd
      obtain ⟨c, hc1, rfl⟩ := hd
      obtain ⟨t, rfl, ht⟩ := (hv.mx m).st
      have hc2 := hc c (List.mem_of_getElem? hc1)
      have hl2 := newsTo_len (chs := chs) (i := i) hA.1
      refine g_gtup ht rfl ?_
      wtm_at "go"
      rename_i H4 m4 e4
      refine ⟨_, _, rfl, by wtm_at "mo", ?_⟩
      rw [newsTo_succ hc1]
      exact e4
    · obtain ⟨x0, y0, rfl, m, e⟩ := hP
      have en : newsTo cs chs us.length = news cs chs := by unfold newsTo news; rw [lu, List.take_length]
      rw [en] at e
      wtm_at "go"
      rename_i tp H4 n4 m4 e4 l H5 n5 m5 e5
      refine g_forR (fun i σ' H' => ∃ x ws, σ' = [some (.ref a), some (.ref b), some (.int (other cs)), some (.ref bk), x, y0, some (.ref l)] ∧ Mx [] H H' ∧ H' bk = some (.lst ((news cs chs).map V.int)) ∧ H' l = some (.lst ws) ∧ DpAll K H' ws (((stepsOf cs chs).take (i + 1)).map stD))
        ⟨_, _, rfl, by wtm_at "mo", by wtm_at "hp", e5, .cons (.mkSt (by wtm_at "st")) .nil⟩ (fun i σ' H' hi hP => ?_) (fun σ' H' hP => ?_)
      · obtain ⟨x, ws, rfl, m, eb, el, dl⟩ := hP
        have ei : (1 + (i : Int)) = ((i + 1 : Nat) : Int) := by omega
        have hi2 : i < 9 := hi
        have lw := dl.len
        rw [List.length_map, List.length_take] at lw
        wtm_at "go"
        rename_i tq H6 n6 m6 e6 H7 m7 e7
        refine ⟨_, _, rfl, by wtm_at "mo", by wtm_at "hp", e7, ?_⟩
        rw [← stepsOf_at hi2, List.map_append]
        refine .app ?_ (.cons (.mkSt (by wtm_at "st")) .nil)
        exact m7.sts (noTup1 (m6.get0 el)) (dl.mx m6)
      · obtain ⟨x, ws, rfl, m, eb, el, dl⟩ := hP
        have lw := dl.len
        rw [List.length_map, List.length_take] at lw
        wtm_at "go"
        rename_i tq H6 n6 m6 e6 l2 H7 n7 m7 e7 l3 H8 n8 m8 e8
        refine k _ _ _ (by wtm_at "fr") (by wtm_at "mo") e8 ?_
        rw [← stepsOf_end, List.map_append]
        exact .app ((((dl.mx m6).mx m7).mx m8)) (.cons (.mkSt (by wtm_at "st")) .nil)
end
end Fk
namespace Fk
open PySem PySem.Spec PyProof.Rows L2
local macro_rules | `(tactic| wtm_at "ln") => `(tactic| first
  | omega
  | (simp only [List.length_cons, List.length_nil, List.length_map, List.length_append, List.length_replicate, List.length_take, List.length_drop, List.length_set]; omega)
  | (with_unfolding_all exact (by decide)))
local macro_rules | `(tactic| wtm_at "ar") => `(tactic| first
  | ((with_reducible show CMulW _ _); (refine' mulS ?_ ?_ <;> omega))
  | ((with_reducible show CDivW _ _); (refine' divS ?_ ?_ <;> omega))
  | ((with_reducible show CPow _ _); exact ⟨by decide, by decide, by decide⟩)
  | (show (0 : Int) < _; omega)
  | (with_unfolding_all exact (by decide)))
local macro_rules | `(tactic| wtm_at "at") => `(tactic| first
  | assumption
  | (refine' cl_atE ?e80 ?h80; (case' e80 => first | exact rfl | assumption); (case' h80 => wtm_at "ln"))
  | exact rfl)
local macro_rules | `(tactic| wtm_at "fr") => `(tactic| first
  | assumption
  | ((with_reducible refine' Mx.free0 ?m99 ?h99); (case' h99 => assumption); (case' m99 => wtm_at "mo")))
local macro_rules | `(tactic| wtm_at "hp") => `(tactic| first
  | assumption
  | ((with_reducible refine' Mx.get0 ?m1 ?h1); (case' m1 => assumption); (case' h1 => wtm_at "hp"))
  | ((with_reducible refine' Mx.get ?m2 ?n2 ?h2); (case' m2 => assumption); (case' n2 => wtm_at "nin"); (case' h2 => wtm_at "hp")))
local macro_rules | `(tactic| wtm_at "sl") => `(tactic| first
  | assumption
  | ((with_reducible refine' Mx.sqL0 ?m96 ?h96); (case' h96 => assumption); (case' m96 => wtm_at "mo"))
  | (refine' SqL.of ?h3; (case' h3 => wtm_at "hp"))
  | ((with_reducible refine' Mx.sqL0 ?m4 ?h4); (case' m4 => assumption); (case' h4 => wtm_at "sl"))
  | ((with_reducible refine' Mx.sqL ?m5 ?n5 ?h5); (case' m5 => assumption); (case' n5 => wtm_at "nin"); (case' h5 => wtm_at "sl")))
local macro_rules | `(tactic| wtm_at "st") => `(tactic| first
  | assumption
  | ((with_reducible refine' Mx.sqT0 ?m97 ?h97); (case' h97 => assumption); (case' m97 => wtm_at "mo"))
  | (refine' SqT.of ?h6; (case' h6 => wtm_at "hp"))
  | ((with_reducible refine' Mx.sqT0 ?m7 ?h7); (case' m7 => assumption); (case' h7 => wtm_at "st"))
  | ((with_reducible refine' Mx.sqT ?m8 ?n8 ?h8); (case' m8 => assumption); (case' n8 => wtm_at "nin"); (case' h8 => wtm_at "st")))
local macro_rules | `(tactic| wtm_at "mx") => `(tactic| first
  | assumption
  | exact Mx.refl
  | ((with_reducible refine' Mx.of0 ?h9); (case' h9 => assumption))
  | ((with_reducible refine' Mx.trans ?h10 ?m10); (case' m10 => first | assumption | ((with_reducible refine' Mx.of0 ?q10); (case' q10 => assumption))); (case' h10 => wtm_at "mx")))
local macro_rules | `(tactic| wtm_at "mo") => `(tactic| first
  | wtm_at "mx"
  | ((with_reducible refine' Mx.own ?m90 ?f90 ?k90); (case' k90 => assumption); (case' f90 => wtm_at "fr"); (case' m90 => wtm_at "mo"))
  | ((with_reducible refine' Mx.trans ?h91 ?m91); (case' m91 => first | assumption | ((with_reducible refine' Mx.of0 ?q91); (case' q91 => assumption))); (case' h91 => wtm_at "mo")))
local macro_rules | `(tactic| wtm_at "ne") => `(tactic| first
  | assumption
  | exact Ne.symm (by assumption)
  | ((with_reducible refine' ne_of_none ?x94 ?y94); (case' y94 => assumption); (case' x94 => wtm_at "hp"))
  | ((with_reducible refine' Ne.symm (ne_of_none ?x95 ?y95)); (case' y95 => assumption); (case' x95 => wtm_at "hp")))
local macro_rules | `(tactic| wtm_at "nin") => `(tactic| first
  | assumption
  | exact List.not_mem_nil
  | ((with_reducible refine' List.not_mem_cons_of_ne_of_not_mem ?h98 ?t98); (case' h98 => wtm_at "ne"); (case' t98 => wtm_at "nin")))
local macro_rules | `(tactic| wtm_at "g1") => `(tactic| first
  | ((with_reducible refine' g_var ?h11 ?k11); (case' h11 => exact rfl))
  | with_reducible refine' g_c ?_
  | with_reducible refine' g_op ?_
  | with_reducible refine' g_I0 ?_
  | ((with_reducible refine' g_I ?c12 ?k12); (case' c12 => wtm_at "ar"))
  | with_reducible refine' g_cons ?_
  | with_reducible refine' g_nil ?_
  | with_reducible refine' g_seq ?_
  | with_reducible refine' g_asg ?_
  | with_reducible refine' g_name ?_
  | with_reducible refine' g_ret ?_
  | with_reducible refine' g_if ?_
  | with_reducible refine' g_test ?_
  | with_reducible refine' g_tB ?_
  | with_reducible refine' g_bl ?_
  | ((with_reducible refine' g_eq ?h13 ?k13); (case' h13 => exact rfl))
  | ((with_reducible refine' g_ne ?h14 ?k14); (case' h14 => exact rfl))
  | with_reducible refine' g_CB ?_
  | with_reducible refine' g_call ?_
  | with_reducible refine' g_drop ?_
  | with_reducible refine' g_next ?_
  | with_reducible refine' g_not ?_
  | with_reducible refine' g_and ?_
  | with_reducible refine' g_or ?_
  | with_reducible refine' g_un ?_
  | with_reducible refine' g_U ?_
  | with_reducible refine' g_tup ?_
  | with_reducible refine' g_lst ?_
  | ((with_reducible refine' g_kNew ?h15 ?k15); (case' h15 => wtm_at "ln"); (case' k15 => intro _ _ _ _ _))
  | ((with_reducible refine' g_ixL ?h16 ?a16 ?k16); (case' h16 => wtm_at "sl"); (case' a16 => wtm_at "at"))
  | ((with_reducible refine' g_ixT ?h17 ?a17 ?k17); (case' h17 => wtm_at "st"); (case' a17 => wtm_at "at"))
  | with_reducible refine' g_slice ?_
  | with_reducible refine' g_part ?_
  | with_reducible refine' g_kPart ?_
  | with_reducible refine' g_noPart ?_
  | ((with_reducible refine' g_slL ?h18 ?k18); (case' h18 => wtm_at "sl"); (case' k18 => intro _ _ _ _ _))
  | ((with_reducible refine' g_cat ?h119 ?h219 ?l19 ?k19); (case' h119 => wtm_at "hp"); (case' h219 => wtm_at "hp"); (case' l19 => wtm_at "ln"); (case' k19 => intro _ _ _ _ _))
  | ((with_reducible refine' g_rep ?h120 ?h220 ?h320 ?l20 ?k20); (case' h120 => wtm_at "hp"); (case' h220 => wtm_at "ln"); (case' h320 => wtm_at "ln"); (case' l20 => wtm_at "ln"); (case' k20 => intro _ _ _ _ _))
  | ((with_reducible refine' g_append ?h21 ?l21 ?k21); (case' h21 => wtm_at "hp"); (case' l21 => wtm_at "ln"); (case' k21 => intro _ _ _))
  | ((with_reducible refine' g_kBM ?h22 ?k22); (case' h22 => wtm_at "sl"))
  | ((with_reducible refine' g_kBM0 ?h23 ?k23); (case' h23 => wtm_at "sl"))
  | ((with_reducible refine' g_kL ?h24 ?k24); (case' h24 => wtm_at "sl"))
  | ((with_reducible refine' g_kR1 ?h125 ?h225 ?k25); (case' h125 => wtm_at "ln"); (case' h225 => wtm_at "ln"))
  | ((with_reducible refine' g_kR2 ?h126 ?h226 ?h326 ?h426 ?k26); (case' h126 => wtm_at "ln"); (case' h226 => wtm_at "ln"); (case' h326 => wtm_at "ln"); (case' h426 => wtm_at "ln"))
  | ((with_reducible refine' g_lenL ?h27 ?k27); (case' h27 => wtm_at "sl"))
  | ((with_reducible refine' g_lenT ?h28 ?k28); (case' h28 => wtm_at "st"))
  | ((with_reducible refine' g_listL ?h29 ?k29); (case' h29 => wtm_at "sl"); (case' k29 => intro _ _ _ _ _))
  | ((with_reducible refine' g_tupleL ?h30 ?k30); (case' h30 => wtm_at "sl"); (case' k30 => intro _ _ _ _ _))
  | with_reducible refine' g_max ?_
  | with_reducible refine' g_min ?_
  | with_reducible refine' g_intB ?_
  | with_reducible refine' g_fld ?_
  | with_reducible refine' g_put ?_
  | with_reducible refine' g_dget ?_
  | with_reducible refine' g_isN ?_
  | with_reducible refine' g_notN ?_
  | with_reducible refine' g_ifE ?_
  | with_reducible refine' g_andV ?_
  | with_reducible refine' g_orV ?_
  | with_reducible refine' g_notV ?_
  | with_reducible refine' g_kIf ?_
  | with_reducible refine' g_chain ?_
  | with_reducible refine' g_kCh ?_
  | with_reducible refine' g_sub ?_
  | ((with_reducible refine' g_setI ?h92 ?e92 ?j92 ?k92); (case' h92 => wtm_at "hp"); (case' e92 => first | exact rfl | assumption); (case' j92 => wtm_at "ln"); (case' k92 => intro _ _ _))
  | ((with_reducible refine' g_setL ?h89 ?i89 ?k89); (case' h89 => wtm_at "hp"); (case' i89 => exact ixE rfl (by wtm_at "ln")); (case' k89 => intro _ _ _))
  | ((with_reducible refine' g_gtup ?h93 ?e93 ?k93); (case' h93 => wtm_at "st"); (case' e93 => exact rfl))
  | with_reducible refine' g_gcons ?_
  | with_reducible refine' g_gnil ?_
  | with_reducible refine' g_par ?_
  | with_reducible refine' g_kPar ?_
  | with_reducible refine' g_meth ?_
  | with_reducible refine' g_bm ?_
  | with_reducible refine' g_bm0 ?_
  | with_reducible refine' g_raise ?_
  | with_reducible refine' g_for ?_
  | with_reducible refine' g_iR1 ?_
  | with_reducible refine' g_iR2 ?_
  | with_reducible refine' g_iL ?_
  | with_reducible refine' g_lc ?_
  | with_reducible refine' g_retN ?_
  | with_reducible refine' g_no (b := false) rfl ?_
  | with_reducible refine' g_yes (b := true) rfl ?_)
local macro_rules | `(tactic| wtm_at "go") => `(tactic| repeat (wtm_at "g1"))
local macro_rules | `(tactic| wtm_at "gs") => `(tactic| repeat ((fail_if_success (with_reducible refine' g_ifE ?_)); wtm_at "g1"))
local macro_rules | `(tactic| wtm_at "gi") => `(tactic| repeat ((fail_if_success (with_reducible refine' g_if ?_)); wtm_at "g1"))
local macro_rules | `(tactic| wtm_at "gr") => `(tactic| repeat ((fail_if_success (with_reducible refine' g_ret ?_)); wtm_at "g1"))
local macro_rules | `(tactic| wtm_at "gq") => `(tactic| repeat ((fail_if_success (with_reducible refine' g_asg ?_)); wtm_at "g1"))
/-! ### codes -/
abbrev Bd (x : Int) : Prop := x.natAbs < 2 ^ 300
def sgn (k m c a kd : Int) : Int := (k + 1) * (17 * m + 31 * c + 53 * a + kd) % 999983
def amt (a : Int) : Bool := decide (1 ≤ a) && decide (a ≤ 99999)
theorem amt_iff {a : Int} : amt a = true ↔ 1 ≤ a ∧ a ≤ 99999 := by simp [amt]
theorem amt_no {a : Int} : amt a = false ↔ ¬ (1 ≤ a ∧ a ≤ 99999) := by simp [amt]
/-- a code: meter, count, amount, sign -/
structure Cd where
  m : Int
  c : Int
  a : Int
  s : Int
  deriving DecidableEq
def Cd.vs (z : Cd) : List V := [.int z.m, .int z.c, .int z.a, .int z.s]
def cdD (z : Cd) : PyData := .tuple [.int z.m, .int z.c, .int z.a, .int z.s]
def mkCd (k m c a kd : Int) : Cd := ⟨m, c, a, sgn k m c a kd⟩
def good (k : Int) (z : Cd) (m c kd : Int) : Bool := decide (z.m = m) && decide (z.c = c) && amt z.a && decide (z.s = sgn k m c z.a kd)
section
variable {P : Program} {w : World} {K : PySem.W.Frag} {mg : Str → Option Value} {base : Heap}
def spSignOf : Sp := fun vs H Q _ => ∃ k m c a kd : Int, vs = [.int k, .int m, .int c, .int a, .int kd] ∧ Bd k ∧ Bd m ∧ Bd c ∧ Bd a ∧ Bd kd ∧ Q (.int (sgn k m c a kd)) H
theorem c_sign_of (T : Tx K mg) : Cl P w K mg base 1 "sign_of" spSignOf [] := by
  refine T.f_sign_of.cl sc_sign_of (fun vs H Q E h => ?_) (fun cdv A outer s H vs Q E hr h => ?_)
  · obtain ⟨_, _, _, _, _, rfl, _⟩ := h
    rfl
  · obtain ⟨k, m, c, a, kd, rfl, b1, b2, b3, b4, b5, q⟩ := h
    refine ⟨_, (pss_one (ps_ret (pe_op op_mod (pe_op op_mulW (pe_op op_add (pv 0) pe_int) (pe_op op_add (pe_op op_add (pe_op op_add (pe_op op_mulW pe_int (pv 1)) (pe_op op_mulW pe_int (pv 2))) (pe_op op_mulW pe_int (pv 3))) (pv 4))) (q_const T.g_WHEEL rfl)))), ?_⟩
    wtm_at "go"
    exact q
def spCodeOf : Sp := fun vs H Q _ => ∃ k m c a kd : Int, vs = [.int k, .int m, .int c, .int a, .int kd] ∧ Bd k ∧ Bd m ∧ Bd c ∧ Bd a ∧ Bd kd ∧
  ∀ p H', H p = none → Mx [] H H' → H' p = some (.tup (mkCd k m c a kd).vs) → Q (.ref p) H'
theorem c_code_of (T : Tx K mg) : Cl P w K mg base 2 "code_of" spCodeOf [] := by
  refine T.f_code_of.cl sc_code_of (fun vs H Q E h => ?_) (fun cdv A outer s H vs Q E hr h => ?_)
  · obtain ⟨_, _, _, _, _, rfl, _⟩ := h
    rfl
  · obtain ⟨k, m, c, a, kd, rfl, b1, b2, b3, b4, b5, q⟩ := h
    refine ⟨_, (pss_one (ps_ret (pe_tup (pa_cons (pv 1) (pa_cons (pv 2) (pa_cons (pv 3) (pa_cons (q_call (c_sign_of T) hr (by decide) rfl (passes_call (takes_of rfl rfl rfl rfl) (fun _ _ _ _ h => h)) (pa_cons (pv 0) (pa_cons (pv 1) (pa_cons (pv 2) (pa_cons (pv 3) (pa_cons (pv 4) pa_nil)))))) pa_nil))))))), ?_⟩
    wtm_at "go"
    refine ⟨k, m, c, a, kd, rfl, b1, b2, b3, b4, b5, ?_⟩
    wtm_at "go"
    exact q _ _ (by assumption) (by assumption) (by assumption)
def spIsAmount : Sp := fun vs H Q _ => ∃ a : Int, vs = [.int a] ∧ Q (.bl (amt a)) H
theorem c_is_amount (T : Tx K mg) : Cl P w K mg base 1 "is_amount" spIsAmount [] := by
  refine T.f_is_amount.cl sc_is_amount (fun vs H Q E h => ?_) (fun cdv A outer s H vs Q E hr h => ?_)
  · obtain ⟨_, rfl, _⟩ := h
    rfl
  · obtain ⟨a, rfl, q⟩ := h
    refine ⟨_, (pss_one (ps_ret (pe_chain op_le op_le pe_int (pv 0) (q_const T.g_MOST_AMOUNT rfl)))), ?_⟩
    unfold amt at q
    wtm_at "go"
    refine g_ite (fun e => ?_) (fun e => ?_)
    · rw [e] at q
      wtm_at "go"
      exact q
    · rw [e] at q
      exact q
def spNeedAmount (T : Tx K mg) : Sp := fun vs H Q E => ∃ a : Int, vs = [.int a] ∧ (amt a = true → Q .non H) ∧ (amt a = false → E (.ref T.E_BadAmount) none H)
theorem c_need_amount (T : Tx K mg) : Cl P w K mg base 2 "need_amount" (spNeedAmount T) [] := by
  refine T.f_need_amount.cl sc_need_amount (fun vs H Q E h => ?_) (fun cdv A outer s H vs Q E hr h => ?_)
  · obtain ⟨_, rfl, _⟩ := h
    rfl
  · obtain ⟨a, rfl, q1, q2⟩ := h
    refine ⟨_, (pss_one (ps_if (pt_not (pt_val (q_call (c_is_amount T) hr (by decide) rfl (passes_call (takes_of rfl rfl rfl rfl) (fun _ _ _ _ h => h)) (pa_cons (pv 0) pa_nil)))) (pss_one (q_raise rfl (takes_of rfl rfl rfl rfl) T.x_BadAmount rfl)) pss_nil)), ?_⟩
    wtm_at "go"
    refine ⟨a, rfl, ?_⟩
    wtm_at "go"
    refine g_ite (fun e => ?_) (fun e => ?_)
    · wtm_at "go"
      exact q2 (by simpa using e)
    · wtm_at "go"
      exact q1 (by simpa using e)
def spIsGood : Sp := fun vs H Q _ => ∃ (k : Int) (t : Addr) (z : Cd) (m c kd : Int), vs = [.int k, .ref t, .int m, .int c, .int kd] ∧ H t = some (.tup z.vs) ∧ Bd k ∧ Bd m ∧ Bd c ∧ Bd kd ∧ Q (.bl (good k z m c kd)) H
theorem c_is_good (T : Tx K mg) : Cl P w K mg base 2 "is_good" spIsGood [] := by
  refine T.f_is_good.cl sc_is_good (fun vs H Q E h => ?_) (fun cdv A outer s H vs Q E hr h => ?_)
  · obtain ⟨_, _, _, _, _, _, rfl, _⟩ := h
    rfl
  · obtain ⟨k, t, z, m, c, kd, rfl, ht, b1, b2, b3, b4, q⟩ := h
    obtain ⟨zm, zc, za, zs⟩ := z
    simp only [Cd.vs] at ht
    unfold good at q
    refine ⟨_, (pss_cons (ps_if (PW.pt (pw_or (pt_cmpR op_ne (pe_ix (ixT K) (pv 1) pe_int (fun _ _ => rfl)) (pv 2) (by first | exact nomark _ | rfl)) (pw_or (pt_cmpR op_ne (pe_ix (ixT K) (pv 1) pe_int (fun _ _ => rfl)) (pv 3) (by first | exact nomark _ | rfl)) (pw_or1 (pt_not (pt_val (q_call (c_is_amount T) hr (by decide) rfl (passes_call (takes_of rfl rfl rfl rfl) (fun _ _ _ _ h => h)) (pa_cons (pe_ix (ixT K) (pv 1) pe_int (fun _ _ => rfl)) pa_nil)))))))) (pss_one (ps_ret pe_bl)) pss_nil)
      (pss_one (ps_ret (pe_cmpR op_eq (pe_ix (ixT K) (pv 1) pe_int (fun _ _ => rfl)) (q_call (c_sign_of T) hr (by decide) rfl (passes_call (takes_of rfl rfl rfl rfl) (fun _ _ _ _ h => h)) (pa_cons (pv 0) (pa_cons (pv 2) (pa_cons (pv 3) (pa_cons (pe_ix (ixT K) (pv 1) pe_int (fun _ _ => rfl)) (pa_cons (pv 4) pa_nil)))))) (by first | exact nomark _ | rfl))))), ?_⟩
    wtm_at "go"
    refine g_ite (fun e => ?_) (fun e => ?_)
    · have e1 : decide (zm = m) = false := by simpa using e
      simp only [e1, Bool.false_and] at q
      wtm_at "go"
      exact q
    · have e1 : decide (zm = m) = true := by simpa using e
      simp only [e1, Bool.true_and] at q
      wtm_at "go"
      refine g_ite (fun e => ?_) (fun e => ?_)
      · have e2 : decide (zc = c) = false := by simpa using e
        simp only [e2, Bool.false_and] at q
        wtm_at "go"
        exact q
      · have e2 : decide (zc = c) = true := by simpa using e
        simp only [e2, Bool.true_and] at q
        wtm_at "go"
        refine ⟨za, rfl, ?_⟩
        wtm_at "go"
        refine g_ite (fun e => ?_) (fun e => ?_)
        · have e3 : amt za = false := by simpa using e
          simp only [e3, Bool.false_and] at q
          wtm_at "go"
          exact q
        · have e3 : amt za = true := by simpa using e
          simp only [e3, Bool.true_and] at q
          have := amt_iff.mp e3
          wtm_at "go"
          refine ⟨k, m, c, za, kd, rfl, b1, b2, b3, (by omega), b4, ?_⟩
          wtm_at "go"
          simpa using q
end
end Fk
namespace Fk
open PySem PySem.Spec PyProof.Rows L2
local macro_rules | `(tactic| wtm_at "ln") => `(tactic| first
  | omega
  | (simp only [List.length_cons, List.length_nil, List.length_map, List.length_append, List.length_replicate, List.length_take, List.length_drop, List.length_set]; omega)
  | (with_unfolding_all exact (by decide)))
local macro_rules | `(tactic| wtm_at "ar") => `(tactic| first
  | ((with_reducible show CMulW _ _); (refine' mulS ?_ ?_ <;> omega))
  | ((with_reducible show CDivW _ _); (refine' divS ?_ ?_ <;> omega))
  | ((with_reducible show CPow _ _); exact ⟨by decide, by decide, by decide⟩)
  | (show (0 : Int) < _; omega)
  | (with_unfolding_all exact (by decide)))
local macro_rules | `(tactic| wtm_at "at") => `(tactic| first
  | assumption
  | (refine' cl_atE ?e80 ?h80; (case' e80 => first | exact rfl | assumption); (case' h80 => wtm_at "ln"))
  | exact rfl)
local macro_rules | `(tactic| wtm_at "fr") => `(tactic| first
  | assumption
  | ((with_reducible refine' Mx.free0 ?m99 ?h99); (case' h99 => assumption); (case' m99 => wtm_at "mo")))
local macro_rules | `(tactic| wtm_at "hp") => `(tactic| first
  | assumption
  | ((with_reducible refine' Mx.get0 ?m1 ?h1); (case' m1 => assumption); (case' h1 => wtm_at "hp"))
  | ((with_reducible refine' Mx.get ?m2 ?n2 ?h2); (case' m2 => assumption); (case' n2 => wtm_at "nin"); (case' h2 => wtm_at "hp")))
local macro_rules | `(tactic| wtm_at "sl") => `(tactic| first
  | assumption
  | ((with_reducible refine' Mx.sqL0 ?m96 ?h96); (case' h96 => assumption); (case' m96 => wtm_at "mo"))
  | (refine' SqL.of ?h3; (case' h3 => wtm_at "hp"))
  | ((with_reducible refine' Mx.sqL0 ?m4 ?h4); (case' m4 => assumption); (case' h4 => wtm_at "sl"))
  | ((with_reducible refine' Mx.sqL ?m5 ?n5 ?h5); (case' m5 => assumption); (case' n5 => wtm_at "nin"); (case' h5 => wtm_at "sl")))
local macro_rules | `(tactic| wtm_at "st") => `(tactic| first
  | assumption
  | ((with_reducible refine' Mx.sqT0 ?m97 ?h97); (case' h97 => assumption); (case' m97 => wtm_at "mo"))
  | (refine' SqT.of ?h6; (case' h6 => wtm_at "hp"))
  | ((with_reducible refine' Mx.sqT0 ?m7 ?h7); (case' m7 => assumption); (case' h7 => wtm_at "st"))
  | ((with_reducible refine' Mx.sqT ?m8 ?n8 ?h8); (case' m8 => assumption); (case' n8 => wtm_at "nin"); (case' h8 => wtm_at "st")))
local macro_rules | `(tactic| wtm_at "mx") => `(tactic| first
  | assumption
  | exact Mx.refl
  | ((with_reducible refine' Mx.of0 ?h9); (case' h9 => assumption))
  | ((with_reducible refine' Mx.trans ?h10 ?m10); (case' m10 => first | assumption | ((with_reducible refine' Mx.of0 ?q10); (case' q10 => assumption))); (case' h10 => wtm_at "mx")))
local macro_rules | `(tactic| wtm_at "mo") => `(tactic| first
  | wtm_at "mx"
  | ((with_reducible refine' Mx.own ?m90 ?f90 ?k90); (case' k90 => assumption); (case' f90 => wtm_at "fr"); (case' m90 => wtm_at "mo"))
  | ((with_reducible refine' Mx.trans ?h91 ?m91); (case' m91 => first | assumption | ((with_reducible refine' Mx.of0 ?q91); (case' q91 => assumption))); (case' h91 => wtm_at "mo")))
local macro_rules | `(tactic| wtm_at "ne") => `(tactic| first
  | assumption
  | exact Ne.symm (by assumption)
  | ((with_reducible refine' ne_of_none ?x94 ?y94); (case' y94 => assumption); (case' x94 => wtm_at "hp"))
  | ((with_reducible refine' Ne.symm (ne_of_none ?x95 ?y95)); (case' y95 => assumption); (case' x95 => wtm_at "hp")))
local macro_rules | `(tactic| wtm_at "nin") => `(tactic| first
  | assumption
  | exact List.not_mem_nil
  | ((with_reducible refine' List.not_mem_cons_of_ne_of_not_mem ?h98 ?t98); (case' h98 => wtm_at "ne"); (case' t98 => wtm_at "nin")))
local macro_rules | `(tactic| wtm_at "g1") => `(tactic| first
  | ((with_reducible refine' g_var ?h11 ?k11); (case' h11 => exact rfl))
  | with_reducible refine' g_c ?_
  | with_reducible refine' g_op ?_
  | with_reducible refine' g_I0 ?_
  | ((with_reducible refine' g_I ?c12 ?k12); (case' c12 => wtm_at "ar"))
  | with_reducible refine' g_cons ?_
  | with_reducible refine' g_nil ?_
  | with_reducible refine' g_seq ?_
  | with_reducible refine' g_asg ?_
  | with_reducible refine' g_name ?_
  | with_reducible refine' g_ret ?_
  | with_reducible refine' g_if ?_
  | with_reducible refine' g_test ?_
  | with_reducible refine' g_tB ?_
  | with_reducible refine' g_bl ?_
  | ((with_reducible refine' g_eq ?h13 ?k13); (case' h13 => exact rfl))
  | ((with_reducible refine' g_ne ?h14 ?k14); (case' h14 => exact rfl))
  | with_reducible refine' g_CB ?_
  | with_reducible refine' g_call ?_
  | with_reducible refine' g_drop ?_
  | with_reducible refine' g_next ?_
  | with_reducible refine' g_not ?_
  | with_reducible refine' g_and ?_
  | with_reducible refine' g_or ?_
  | with_reducible refine' g_un ?_
  | with_reducible refine' g_U ?_
  | with_reducible refine' g_tup ?_
  | with_reducible refine' g_lst ?_
  | ((with_reducible refine' g_kNew ?h15 ?k15); (case' h15 => wtm_at "ln"); (case' k15 => intro _ _ _ _ _))
  | ((with_reducible refine' g_ixL ?h16 ?a16 ?k16); (case' h16 => wtm_at "sl"); (case' a16 => wtm_at "at"))
  | ((with_reducible refine' g_ixT ?h17 ?a17 ?k17); (case' h17 => wtm_at "st"); (case' a17 => wtm_at "at"))
  | with_reducible refine' g_slice ?_
  | with_reducible refine' g_part ?_
  | with_reducible refine' g_kPart ?_
  | with_reducible refine' g_noPart ?_
  | ((with_reducible refine' g_slL ?h18 ?k18); (case' h18 => wtm_at "sl"); (case' k18 => intro _ _ _ _ _))
  | ((with_reducible refine' g_cat ?h119 ?h219 ?l19 ?k19); (case' h119 => wtm_at "hp"); (case' h219 => wtm_at "hp"); (case' l19 => wtm_at "ln"); (case' k19 => intro _ _ _ _ _))
  | ((with_reducible refine' g_rep ?h120 ?h220 ?h320 ?l20 ?k20); (case' h120 => wtm_at "hp"); (case' h220 => wtm_at "ln"); (case' h320 => wtm_at "ln"); (case' l20 => wtm_at "ln"); (case' k20 => intro _ _ _ _ _))
  | ((with_reducible refine' g_append ?h21 ?l21 ?k21); (case' h21 => wtm_at "hp"); (case' l21 => wtm_at "ln"); (case' k21 => intro _ _ _))
  | ((with_reducible refine' g_kBM ?h22 ?k22); (case' h22 => wtm_at "sl"))
  | ((with_reducible refine' g_kBM0 ?h23 ?k23); (case' h23 => wtm_at "sl"))
  | ((with_reducible refine' g_kL ?h24 ?k24); (case' h24 => wtm_at "sl"))
  | ((with_reducible refine' g_kR1 ?h125 ?h225 ?k25); (case' h125 => wtm_at "ln"); (case' h225 => wtm_at "ln"))
  | ((with_reducible refine' g_kR2 ?h126 ?h226 ?h326 ?h426 ?k26); (case' h126 => wtm_at "ln"); (case' h226 => wtm_at "ln"); (case' h326 => wtm_at "ln"); (case' h426 => wtm_at "ln"))
  | ((with_reducible refine' g_lenL ?h27 ?k27); (case' h27 => wtm_at "sl"))
  | ((with_reducible refine' g_lenT ?h28 ?k28); (case' h28 => wtm_at "st"))
  | ((with_reducible refine' g_listL ?h29 ?k29); (case' h29 => wtm_at "sl"); (case' k29 => intro _ _ _ _ _))
  | ((with_reducible refine' g_tupleL ?h30 ?k30); (case' h30 => wtm_at "sl"); (case' k30 => intro _ _ _ _ _))
  | with_reducible refine' g_max ?_
  | with_reducible refine' g_min ?_
  | with_reducible refine' g_intB ?_
  | with_reducible refine' g_fld ?_
  | with_reducible refine' g_put ?_
  | with_reducible refine' g_dget ?_
  | with_reducible refine' g_isN ?_
  | with_reducible refine' g_notN ?_
  | with_reducible refine' g_ifE ?_
  | with_reducible refine' g_andV ?_
  | with_reducible refine' g_orV ?_
  | with_reducible refine' g_notV ?_
  | with_reducible refine' g_kIf ?_
  | with_reducible refine' g_chain ?_
  | with_reducible refine' g_kCh ?_
  | with_reducible refine' g_sub ?_
  | ((with_reducible refine' g_setI ?h92 ?e92 ?j92 ?k92); (case' h92 => wtm_at "hp"); (case' e92 => first | exact rfl | assumption); (case' j92 => wtm_at "ln"); (case' k92 => intro _ _ _))
  | ((with_reducible refine' g_setL ?h89 ?i89 ?k89); (case' h89 => wtm_at "hp"); (case' i89 => exact ixE rfl (by wtm_at "ln")); (case' k89 => intro _ _ _))
  | ((with_reducible refine' g_gtup ?h93 ?e93 ?k93); (case' h93 => wtm_at "st"); (case' e93 => exact rfl))
  | with_reducible refine' g_gcons ?_
  | with_reducible refine' g_gnil ?_
  | with_reducible refine' g_par ?_
  | with_reducible refine' g_kPar ?_
  | with_reducible refine' g_meth ?_
  | with_reducible refine' g_bm ?_
  | with_reducible refine' g_bm0 ?_
  | with_reducible refine' g_raise ?_
  | with_reducible refine' g_for ?_
  | with_reducible refine' g_iR1 ?_
  | with_reducible refine' g_iR2 ?_
  | with_reducible refine' g_iL ?_
  | with_reducible refine' g_lc ?_
  | with_reducible refine' g_retN ?_
  | with_reducible refine' g_no (b := false) rfl ?_
  | with_reducible refine' g_yes (b := true) rfl ?_)
local macro_rules | `(tactic| wtm_at "go") => `(tactic| repeat (wtm_at "g1"))
local macro_rules | `(tactic| wtm_at "gs") => `(tactic| repeat ((fail_if_success (with_reducible refine' g_ifE ?_)); wtm_at "g1"))
local macro_rules | `(tactic| wtm_at "gi") => `(tactic| repeat ((fail_if_success (with_reducible refine' g_if ?_)); wtm_at "g1"))
local macro_rules | `(tactic| wtm_at "gr") => `(tactic| repeat ((fail_if_success (with_reducible refine' g_ret ?_)); wtm_at "g1"))
local macro_rules | `(tactic| wtm_at "gq") => `(tactic| repeat ((fail_if_success (with_reducible refine' g_asg ?_)); wtm_at "g1"))
/-! ### meters -/
structure Mt where
  num : Int
  key : Int
  cells : List Int
  stamps : List (Int × Int)
  up : Bool
/-- the i-th number of the bank that stands -/
def bk (μ : Mt) (i : Nat) : Int := cl (bank μ.cells) i
def mFlds (μ : Mt) (pm pp : Addr) : List (Str × V) := [("own", .int μ.num), ("key", .int μ.key), ("memory", .ref pm), ("prints", .ref pp), ("awake", .bl μ.up)]
/-- the meter μ stands at p, its cells at pm, its stamps at pp -/
structure MetAt (K : PySem.W.Frag) (C : Addr) (H : Hp) (p pm pp : Addr) (μ : Mt) : Prop where
  ob : ∃ dx, H p = some (.ins C dx (mFlds μ pm pp))
  me : H pm = some (.lst (μ.cells.map V.int))
  pr : ∃ vs, H pp = some (.lst vs) ∧ DpAll K H vs (μ.stamps.map stD)
  ne : pm ≠ pp
theorem MetAt.mx {K : PySem.W.Frag} {C : Addr} {S : List Addr} {H H' : Hp} {p pm pp : Addr} {μ : Mt} (M : MetAt K C H p pm pp μ) (m : Mx S H H') (n : NoTup H S) (h1 : p ∉ S) (h2 : pm ∉ S) (h3 : pp ∉ S) : MetAt K C H' p pm pp μ := by
  obtain ⟨⟨dx, ob⟩, me, ⟨vs, pr, dp⟩, ne⟩ := M
  exact ⟨⟨dx, m _ _ ob h1⟩, m _ _ me h2, ⟨vs, m _ _ pr h3, m.sts n dp⟩, ne⟩
theorem noTup0 {H : Hp} : NoTup H [] := fun _ h => by simp at h
theorem MetAt.mx0 {K : PySem.W.Frag} {C : Addr} {H H' : Hp} {p pm pp : Addr} {μ : Mt} (M : MetAt K C H p pm pp μ) (m : Mx [] H H') : MetAt K C H' p pm pp μ := M.mx m noTup0 (by simp) (by simp) (by simp)
theorem MetAt.p_pm {K : PySem.W.Frag} {C : Addr} {H : Hp} {p pm pp : Addr} {μ : Mt} (M : MetAt K C H p pm pp μ) : p ≠ pm := by
  obtain ⟨⟨dx, ob⟩, me, _, _⟩ := M
  exact ne_of ob me fun z => nomatch z
theorem MetAt.p_pp {K : PySem.W.Frag} {C : Addr} {H : Hp} {p pm pp : Addr} {μ : Mt} (M : MetAt K C H p pm pp μ) : p ≠ pp := by
  obtain ⟨⟨dx, ob⟩, _, ⟨vs, pr, _⟩, _⟩ := M
  exact ne_of ob pr fun z => nomatch z
theorem noTupI {H : Hp} {p C dx : Addr} {fs : List (Str × V)} (h : H p = some (.ins C dx fs)) : NoTup H [p] := fun x hx u e => by
  simp at hx; subst hx; rw [h] at e; cases e; exact ⟨(fun _ z => nomatch z), (fun _ _ z => nomatch z)⟩
/-! what a def does to a meter -/
def lastNo (ss : List (Int × Int)) : Int := match ss.getLast? with
  | some s => s.1
  | none => 0
def owed (μ : Mt) : Option (Int × Int) := if lastNo μ.stamps < bk μ 8 then some (bk μ 8, bk μ 9) else none
def wr (cs : List Int) (st : List (Int × Int)) (k : Nat) : List Int := (st.take k).foldl (fun cs s => cs.set s.1.toNat s.2) cs
theorem wr_succ {cs : List Int} {st : List (Int × Int)} {i : Nat} {s : Int × Int} (h : st[i]? = some s) : wr cs st (i + 1) = (wr cs st i).set s.1.toNat s.2 := by
  unfold wr
  rw [List.take_add_one, h, List.foldl_append]
  rfl
theorem wr_len (cs : List Int) (st : List (Int × Int)) (k : Nat) : (wr cs st k).length = cs.length := by
  have : ∀ (st : List (Int × Int)) (b : List Int), (st.foldl (fun cs s => cs.set s.1.toNat s.2) b).length = b.length := by
    intro st
    induction st with
    | nil => intro b; rfl
    | cons c r ih => intro b; rw [List.foldl_cons, ih, List.length_set]
  exact this _ _
theorem stepsOf_len (cs : List Int) (chs : List (Nat × Int)) : (stepsOf cs chs).length = 11 := by simp [stepsOf]
theorem other_le (cs : List Int) : other cs ≤ 10 := by
  have := stand_le cs
  unfold other; omega
theorem stepsOf_ix {cs : List Int} {chs : List (Nat × Int)} {s : Int × Int} (h : s ∈ stepsOf cs chs) : ∃ j : Nat, s.1 = (j : Int) ∧ j < 20 := by
  have := other_le cs
  simp only [stepsOf, List.cons_append, List.mem_cons, List.mem_append, List.mem_map, List.mem_range, List.not_mem_nil, or_false] at h
  rcases h with h | ⟨k, hk, h⟩ | h
  · exact ⟨other cs, by rw [h], by omega⟩
  · exact ⟨other cs + (1 + k), by rw [← h]; simp, by omega⟩
  · exact ⟨other cs, by rw [h], by omega⟩
/-- a cut as it is handed in -/
def cutO : Option Nat → V
  | none => .non
  | some k => .int k
def leftV : Option (Option Nat) → V
  | none => .int (-1)
  | some c => cutO c
def writeM (μ : Mt) (chs : List (Nat × Int)) (cut : Option Nat) : Option (Option Nat) × Mt :=
  match cut with
  | some k => if k < 11 then (none, { μ with cells := wr μ.cells (stepsOf μ.cells chs) k, up := false }) else (some (some (k - 11)), { μ with cells := wr μ.cells (stepsOf μ.cells chs) 11 })
  | none => (some none, { μ with cells := wr μ.cells (stepsOf μ.cells chs) 11 })
def printM (μ : Mt) (cut : Option Nat) : Bool × Mt :=
  match owed μ with
  | none => (true, μ)
  | some s => if cut = some 0 then (false, { μ with up := false }) else (true, { μ with stamps := μ.stamps ++ [s] })
section
variable {P : Program} {w : World} {K : PySem.W.Frag} {mg : Str → Option Value} {base : Heap}
section
variable {σ : L2.St} {H : Hp} {Q : VK} {p pm pp dx : Addr} {μ : Mt} {N : Hp → Prop} {b : Bool}
theorem g_fOwn (T : Tx K mg) (h : H p = some (.ins T.C_Meter dx (mFlds μ pm pp))) (k : Q (.int μ.num) H) : kFld K "own" Q (.ref p) H := g_kFld h T.cls_Meter T.na_Meter_own rfl k
theorem g_fKey (T : Tx K mg) (h : H p = some (.ins T.C_Meter dx (mFlds μ pm pp))) (k : Q (.int μ.key) H) : kFld K "key" Q (.ref p) H := g_kFld h T.cls_Meter T.na_Meter_key rfl k
theorem g_fMem (T : Tx K mg) (h : H p = some (.ins T.C_Meter dx (mFlds μ pm pp))) (k : Q (.ref pm) H) : kFld K "memory" Q (.ref p) H := g_kFld h T.cls_Meter T.na_Meter_memory rfl k
theorem g_fPri (T : Tx K mg) (h : H p = some (.ins T.C_Meter dx (mFlds μ pm pp))) (k : Q (.ref pp) H) : kFld K "prints" Q (.ref p) H := g_kFld h T.cls_Meter T.na_Meter_prints rfl k
theorem g_fAwa (T : Tx K mg) (h : H p = some (.ins T.C_Meter dx (mFlds μ pm pp))) (k : Q (.bl μ.up) H) : kFld K "awake" Q (.ref p) H := g_kFld h T.cls_Meter T.na_Meter_awake rfl k
theorem g_pAwa (T : Tx K mg) (h : H p = some (.ins T.C_Meter dx (mFlds μ pm pp))) (k : ∀ H', Mx [p] H H' → H' p = some (.ins T.C_Meter dx (mFlds { μ with up := b } pm pp)) → N H') : kPut K "awake" (.bl b) N (.ref p) H :=
  g_kPut h T.cls_Meter T.na_Meter_awake rfl (by show 5 < 1000; decide) k
end
local macro_rules | `(tactic| wtm_at "g1") => `(tactic| first
  | ((with_reducible refine' g_fOwn (by assumption) ?h201 ?k201); (case' h201 => wtm_at "hp"))
  | ((with_reducible refine' g_fKey (by assumption) ?h202 ?k202); (case' h202 => wtm_at "hp"))
  | ((with_reducible refine' g_fMem (by assumption) ?h203 ?k203); (case' h203 => wtm_at "hp"))
  | ((with_reducible refine' g_fPri (by assumption) ?h204 ?k204); (case' h204 => wtm_at "hp"))
  | ((with_reducible refine' g_fAwa (by assumption) ?h205 ?k205); (case' h205 => wtm_at "hp"))
  | ((with_reducible refine' g_pAwa (by assumption) ?h206 ?k206); (case' h206 => wtm_at "hp"); (case' k206 => intro _ _ _))
  | ((with_reducible refine' g_kMeth ?h207 ?l207 ?k207); (case' h207 => wtm_at "hp"); (case' l207 => exact rfl)))

def spNeedKey (T : Tx K mg) : Sp := fun vs H Q E => ∃ a : Int, vs = [.int a] ∧ (0 ≤ a ∧ a ≤ 999981 → Q .non H) ∧ (¬ (0 ≤ a ∧ a ≤ 999981) → E (.ref T.E_BadNumber) none H)
theorem c_need_key (T : Tx K mg) : Cl P w K mg base 1 "need_key" (spNeedKey T) [] := by
  refine T.f_need_key.cl sc_need_key (fun vs H Q E h => ?_) (fun cdv A outer s H vs Q E hr h => ?_)
  · obtain ⟨_, rfl, _⟩ := h
    rfl
  · obtain ⟨a, rfl, q1, q2⟩ := h
    refine ⟨_, (pss_one (ps_if (pt_not (pt_chain op_le op_le pe_int (pv 0) (q_const T.g_MOST_KEY rfl))) (pss_one (q_raise rfl (takes_of rfl rfl rfl rfl) T.x_BadNumber rfl)) pss_nil)), ?_⟩
    wtm_at "go"
    refine g_ite (fun e => ?_) (fun e => ?_)
    · wtm_at "go"
      refine g_ite (fun e2 => ?_) (fun e2 => ?_)
      · wtm_at "go"
        simp at e e2
        exact q2 (by omega)
      · wtm_at "go"
        simp at e e2
        exact q1 (by omega)
    · wtm_at "go"
      simp at e
      exact q2 (by omega)
def spNeedNumber (T : Tx K mg) : Sp := fun vs H Q E => ∃ a : Int, vs = [.int a] ∧ (1 ≤ a ∧ a ≤ 9999 → Q .non H) ∧ (¬ (1 ≤ a ∧ a ≤ 9999) → E (.ref T.E_BadNumber) none H)
theorem c_need_number (T : Tx K mg) : Cl P w K mg base 1 "need_number" (spNeedNumber T) [] := by
  refine T.f_need_number.cl sc_need_number (fun vs H Q E h => ?_) (fun cdv A outer s H vs Q E hr h => ?_)
  · obtain ⟨_, rfl, _⟩ := h
    rfl
  · obtain ⟨a, rfl, q1, q2⟩ := h
    refine ⟨_, (pss_one (ps_if (pt_not (pt_chain op_le op_le pe_int (pv 0) (q_const T.g_MOST_NUMBER rfl))) (pss_one (q_raise rfl (takes_of rfl rfl rfl rfl) T.x_BadNumber rfl)) pss_nil)), ?_⟩
    wtm_at "go"
    refine g_ite (fun e => ?_) (fun e => ?_)
    · wtm_at "go"
      refine g_ite (fun e2 => ?_) (fun e2 => ?_)
      · wtm_at "go"
        simp at e e2
        exact q2 (by omega)
      · wtm_at "go"
        simp at e e2
        exact q1 (by omega)
    · wtm_at "go"
      simp at e
      exact q2 (by omega)
/-- Meter(number, key): the new meter -/
def spInit (T : Tx K mg) : Sp := fun vs H Q E => ∃ (p dx : Addr) (n k : Int), vs = [.ref p, .int n, .int k] ∧ H p = some (.ins T.C_Meter dx []) ∧
  ((1 ≤ n ∧ n ≤ 9999) ∧ (0 ≤ k ∧ k ≤ 999981) → ∀ pm pp H', H pm = none → H pp = none → Mx [p] H H' → MetAt K T.C_Meter H' p pm pp ⟨n, k, 1 :: List.replicate 19 0, [], true⟩ → Q .non H') ∧
  (¬ ((1 ≤ n ∧ n ≤ 9999) ∧ (0 ≤ k ∧ k ≤ 999981)) → E (.ref T.E_BadNumber) none H)
theorem mt_Meter___init__ (T : Tx K mg) : Me P w K mg base 2 T.C_Meter "__init__" (spInit T) [] := by
  refine T.m_Meter___init__.me T.cls_Meter sc_Meter___init__ (fun vs H Q E h => ?_) (fun cdv A outer s H vs Q E hr h => ?_)
  · obtain ⟨_, _, _, _, rfl, _⟩ := h
    rfl
  · obtain ⟨p, dx, n, k, rfl, hp, q1, q2⟩ := h
    refine ⟨_, (pss_cons (ps_expr (q_call (c_need_number T) hr (by decide) rfl (passes_call (takes_of rfl rfl rfl rfl) (fun _ _ _ _ h => h)) (pa_cons (pv 1) pa_nil)))
      (pss_cons (ps_expr (q_call (c_need_key T) hr (by decide) rfl (passes_call (takes_of rfl rfl rfl rfl) (fun _ _ _ _ h => h)) (pa_cons (pv 2) pa_nil)))
      (pss_cons (psFld K (pv 0) (pv 1) rfl)
      (pss_cons (psFld K (pv 0) (pv 2) rfl)
      (pss_cons (psFld K (pv 0) (q_call0 (c_at_first T) hr (by decide) rfl (passes_call (takes_of rfl rfl rfl rfl) (fun _ _ _ _ h => h))) rfl)
      (pss_cons (psFld K (pv 0) (pe_lst pa_nil) rfl)
      (pss_one (psFld K (pv 0) pe_bl rfl)))))))), ?_⟩
    wtm_at "go"
    refine ⟨n, rfl, fun hn => ?_, fun hn => q2 fun z => hn z.1⟩
    wtm_at "go"
    refine ⟨k, rfl, fun hk => ?_, fun hk => q2 fun z => hk z.2⟩
    wtm_at "go"
    refine g_kPut hp T.cls_Meter T.na_Meter_own rfl (by decide) fun H1 m1 e1 => ?_
    wtm_at "go"
    refine g_kPut e1 T.cls_Meter T.na_Meter_key rfl (by show 1 < 1000; decide) fun H2 m2 e2 => ?_
    wtm_at "go"
    refine ⟨rfl, fun pm H3 n3 m3 e3 => ?_⟩
    wtm_at "go"
    refine g_kPut (m3.get0 e2) T.cls_Meter T.na_Meter_memory rfl (by show 2 < 1000; decide) fun H4 m4 e4 => ?_
    wtm_at "go"
    rename_i pp H5 n5 m5 e5
    refine g_kPut (m5.get0 e4) T.cls_Meter T.na_Meter_prints rfl (by show 3 < 1000; decide) fun H6 m6 e6 => ?_
    wtm_at "go"
    refine g_kPut e6 T.cls_Meter T.na_Meter_awake rfl (by show 4 < 1000; decide) fun H7 m7 e7 => ?_
    have c1 : Mx [p] H H2 := m1.trans m2
    have c2 : Mx [p] H H4 := (c1.trans m3.of0).trans m4
    have d1 : pm ≠ p := (ne_of_none e2 n3).symm
    have d2 : pp ≠ p := (ne_of_none e4 n5).symm
    have f1 : H4 pm = some (.lst ((1 :: List.replicate 19 0 : List Int).map V.int)) := m4 _ _ e3 (by simpa using d1)
    have d3 : pm ≠ pp := ne_of_none f1 n5
    refine q1 ⟨hn, hk⟩ pm pp H7 (c1.free n3 (by simpa using d1)) (c2.free n5 (by simpa using d2)) (((c2.trans m5.of0).trans m6).trans m7) ⟨⟨dx, e7⟩, ?_, ⟨[], ?_, .nil⟩, d3⟩
    · exact m7 _ _ (m6 _ _ (m5.get0 f1) (by simpa using d1)) (by simpa using d1)
    · exact m7 _ _ (m6 _ _ e5 (by simpa using d2)) (by simpa using d2)
theorem mk_Meter (T : Tx K mg) : Ma P w K mg base 2 "Meter" T.C_Meter (spInit T) [] := by
  obtain ⟨f, fd, ps, ds, _, m, F, b, d⟩ := (mt_Meter___init__ (P := P) (w := w) (base := base) T).ex
  exact ⟨f, fd, ps, ds, ⟨T.mk_Meter_, m.at_, m.fn, T.kc_Meter⟩, F, T.g_Meter, b, d⟩
/-- number, cells, stamps, is_up -/
def spNumber (T : Tx K mg) : Sp := fun vs H Q _ => ∃ (p pm pp : Addr) (μ : Mt), vs = [.ref p] ∧ MetAt K T.C_Meter H p pm pp μ ∧ Q (.int μ.num) H
theorem mt_Meter_number (T : Tx K mg) : Me P w K mg base 1 T.C_Meter "number" (spNumber T) [] := by
  refine T.m_Meter_number.me T.cls_Meter sc_Meter_number (fun vs H Q E h => ?_) (fun cdv A outer s H vs Q E hr h => ?_)
  · obtain ⟨_, _, _, _, rfl, _⟩ := h
    rfl
  · obtain ⟨p, pm, pp, μ, rfl, ⟨⟨dx, ob⟩, me, pr, ne⟩, q⟩ := h
    refine ⟨_, (pss_one (ps_ret (fldK K (pv 0) rfl))), ?_⟩
    wtm_at "go"
    exact q
def spIsUp (T : Tx K mg) : Sp := fun vs H Q _ => ∃ (p pm pp : Addr) (μ : Mt), vs = [.ref p] ∧ MetAt K T.C_Meter H p pm pp μ ∧ Q (.bl μ.up) H
theorem mt_Meter_is_up (T : Tx K mg) : Me P w K mg base 1 T.C_Meter "is_up" (spIsUp T) [] := by
  refine T.m_Meter_is_up.me T.cls_Meter sc_Meter_is_up (fun vs H Q E h => ?_) (fun cdv A outer s H vs Q E hr h => ?_)
  · obtain ⟨_, _, _, _, rfl, _⟩ := h
    rfl
  · obtain ⟨p, pm, pp, μ, rfl, ⟨⟨dx, ob⟩, me, pr, ne⟩, q⟩ := h
    refine ⟨_, (pss_one (ps_ret (fldK K (pv 0) rfl))), ?_⟩
    wtm_at "go"
    exact q
def spCells (T : Tx K mg) : Sp := fun vs H Q _ => ∃ (p pm pp : Addr) (μ : Mt), vs = [.ref p] ∧ MetAt K T.C_Meter H p pm pp μ ∧ ∀ l H', H l = none → Mx [] H H' → H' l = some (.lst (μ.cells.map V.int)) → Q (.ref l) H'
def spStamps (T : Tx K mg) : Sp := fun vs H Q _ => ∃ (p pm pp : Addr) (μ : Mt), vs = [.ref p] ∧ MetAt K T.C_Meter H p pm pp μ ∧ ∀ l ws H', H l = none → Mx [] H H' → H' l = some (.lst ws) → DpAll K H' ws (μ.stamps.map stD) → Q (.ref l) H'
/-- sums -/
def spSums (T : Tx K mg) : Sp := fun vs H Q _ => ∃ (p pm pp : Addr) (μ : Mt), vs = [.ref p] ∧ MetAt K T.C_Meter H p pm pp μ ∧ Any μ.cells ∧ ∀ l H', H l = none → Mx [] H H' → H' l = some (.tup [.int (bk μ 2), .int (bk μ 3), .int (bk μ 4)]) → Q (.ref l) H'
theorem mt_Meter_sums (T : Tx K mg) : Me P w K mg base 3 T.C_Meter "sums" (spSums T) [] := by
  refine T.m_Meter_sums.me T.cls_Meter sc_Meter_sums (fun vs H Q E h => ?_) (fun cdv A outer s H vs Q E hr h => ?_)
  · obtain ⟨_, _, _, _, rfl, _⟩ := h
    rfl
  · obtain ⟨p, pm, pp, μ, rfl, ⟨⟨dx, ob⟩, me, ⟨ws, pr, dp⟩, ne⟩, hA, q⟩ := h
    have hl := hA.1
    have hb := bank_len hl
    refine ⟨_, (pss_cons (ps_set (i := 1) sc_Meter_sums.nd rfl (Or.inl rfl) (q_call (c_bank_of T) hr (by decide) rfl (passes_call (takes_of rfl rfl rfl rfl) (fun _ _ _ _ h => h)) (pa_cons (fldK K (pv 0) rfl) pa_nil)))
      (pss_one (ps_ret (pe_tup (pa_cons (pe_ix (ixL K) (pv 1) (q_const T.g_RISING rfl) (fun _ _ => rfl)) (pa_cons (pe_ix (ixL K) (pv 1) (q_const T.g_FALLING rfl) (fun _ _ => rfl)) (pa_cons (pe_ix (ixL K) (pv 1) (q_const T.g_CREDIT rfl) (fun _ _ => rfl)) pa_nil))))))), ?_⟩
    wtm_at "go"
    refine ⟨pm, μ.cells, rfl, by wtm_at "sl", by omega, fun _ b H1 n1 m1 e1 => ?_, fun z => absurd hA z⟩
    wtm_at "go"
    exact q _ _ (by wtm_at "fr") (by wtm_at "mo") (by assumption)
def spNeedUp (T : Tx K mg) : Sp := fun vs H Q E => ∃ (p pm pp : Addr) (μ : Mt), vs = [.ref p] ∧ MetAt K T.C_Meter H p pm pp μ ∧ (μ.up = true → Q .non H) ∧ (μ.up = false → E (.ref T.E_Down) none H)
theorem mt_Meter_need_up (T : Tx K mg) : Me P w K mg base 1 T.C_Meter "need_up" (spNeedUp T) [] := by
  refine T.m_Meter_need_up.me T.cls_Meter sc_Meter_need_up (fun vs H Q E h => ?_) (fun cdv A outer s H vs Q E hr h => ?_)
  · obtain ⟨_, _, _, _, rfl, _⟩ := h
    rfl
  · obtain ⟨p, pm, pp, μ, rfl, ⟨⟨dx, ob⟩, me, pr, ne⟩, q1, q2⟩ := h
    refine ⟨_, (pss_one (ps_if (pt_not (pt_val (fldK K (pv 0) rfl))) (pss_one (q_raise rfl (takes_of rfl rfl rfl rfl) T.x_Down rfl)) pss_nil)), ?_⟩
    wtm_at "go"
    refine g_ite (fun e => ?_) (fun e => ?_)
    · wtm_at "go"
      exact q2 (by simpa using e)
    · wtm_at "go"
      exact q1 (by simpa using e)
end
end Fk
namespace Fk
open PySem PySem.Spec PyProof.Rows L2
local macro_rules | `(tactic| wtm_at "ln") => `(tactic| first
  | omega
  | (simp only [List.length_cons, List.length_nil, List.length_map, List.length_append, List.length_replicate, List.length_take, List.length_drop, List.length_set]; omega)
  | (with_unfolding_all exact (by decide)))
local macro_rules | `(tactic| wtm_at "ar") => `(tactic| first
  | ((with_reducible show CMulW _ _); (refine' mulS ?_ ?_ <;> omega))
  | ((with_reducible show CDivW _ _); (refine' divS ?_ ?_ <;> omega))
  | ((with_reducible show CPow _ _); exact ⟨by decide, by decide, by decide⟩)
  | (show (0 : Int) < _; omega)
  | (with_unfolding_all exact (by decide)))
local macro_rules | `(tactic| wtm_at "at") => `(tactic| first
  | assumption
  | (refine' cl_atE ?e80 ?h80; (case' e80 => first | exact rfl | assumption); (case' h80 => wtm_at "ln"))
  | exact rfl)
local macro_rules | `(tactic| wtm_at "fr") => `(tactic| first
  | assumption
  | ((with_reducible refine' Mx.free0 ?m99 ?h99); (case' h99 => assumption); (case' m99 => wtm_at "mo")))
local macro_rules | `(tactic| wtm_at "hp") => `(tactic| first
  | assumption
  | ((with_reducible refine' Mx.get0 ?m1 ?h1); (case' m1 => assumption); (case' h1 => wtm_at "hp"))
  | ((with_reducible refine' Mx.get ?m2 ?n2 ?h2); (case' m2 => assumption); (case' n2 => wtm_at "nin"); (case' h2 => wtm_at "hp")))
local macro_rules | `(tactic| wtm_at "sl") => `(tactic| first
  | assumption
  | ((with_reducible refine' Mx.sqL0 ?m96 ?h96); (case' h96 => assumption); (case' m96 => wtm_at "mo"))
  | (refine' SqL.of ?h3; (case' h3 => wtm_at "hp"))
  | ((with_reducible refine' Mx.sqL0 ?m4 ?h4); (case' m4 => assumption); (case' h4 => wtm_at "sl"))
  | ((with_reducible refine' Mx.sqL ?m5 ?n5 ?h5); (case' m5 => assumption); (case' n5 => wtm_at "nin"); (case' h5 => wtm_at "sl")))
local macro_rules | `(tactic| wtm_at "st") => `(tactic| first
  | assumption
  | ((with_reducible refine' Mx.sqT0 ?m97 ?h97); (case' h97 => assumption); (case' m97 => wtm_at "mo"))
  | (refine' SqT.of ?h6; (case' h6 => wtm_at "hp"))
  | ((with_reducible refine' Mx.sqT0 ?m7 ?h7); (case' m7 => assumption); (case' h7 => wtm_at "st"))
  | ((with_reducible refine' Mx.sqT ?m8 ?n8 ?h8); (case' m8 => assumption); (case' n8 => wtm_at "nin"); (case' h8 => wtm_at "st")))
local macro_rules | `(tactic| wtm_at "mx") => `(tactic| first
  | assumption
  | exact Mx.refl
  | ((with_reducible refine' Mx.of0 ?h9); (case' h9 => assumption))
  | ((with_reducible refine' Mx.trans ?h10 ?m10); (case' m10 => first | assumption | ((with_reducible refine' Mx.of0 ?q10); (case' q10 => assumption))); (case' h10 => wtm_at "mx")))
local macro_rules | `(tactic| wtm_at "mo") => `(tactic| first
  | wtm_at "mx"
  | ((with_reducible refine' Mx.own ?m90 ?f90 ?k90); (case' k90 => assumption); (case' f90 => wtm_at "fr"); (case' m90 => wtm_at "mo"))
  | ((with_reducible refine' Mx.trans ?h91 ?m91); (case' m91 => first | assumption | ((with_reducible refine' Mx.of0 ?q91); (case' q91 => assumption))); (case' h91 => wtm_at "mo")))
local macro_rules | `(tactic| wtm_at "ne") => `(tactic| first
  | assumption
  | exact Ne.symm (by assumption)
  | ((with_reducible refine' ne_of_none ?x94 ?y94); (case' y94 => assumption); (case' x94 => wtm_at "hp"))
  | ((with_reducible refine' Ne.symm (ne_of_none ?x95 ?y95)); (case' y95 => assumption); (case' x95 => wtm_at "hp")))
local macro_rules | `(tactic| wtm_at "nin") => `(tactic| first
  | assumption
  | exact List.not_mem_nil
  | ((with_reducible refine' List.not_mem_cons_of_ne_of_not_mem ?h98 ?t98); (case' h98 => wtm_at "ne"); (case' t98 => wtm_at "nin")))
local macro_rules | `(tactic| wtm_at "g1") => `(tactic| first
  | ((with_reducible refine' g_var ?h11 ?k11); (case' h11 => exact rfl))
  | with_reducible refine' g_c ?_
  | with_reducible refine' g_op ?_
  | with_reducible refine' g_I0 ?_
  | ((with_reducible refine' g_I ?c12 ?k12); (case' c12 => wtm_at "ar"))
  | with_reducible refine' g_cons ?_
  | with_reducible refine' g_nil ?_
  | with_reducible refine' g_seq ?_
  | with_reducible refine' g_asg ?_
  | with_reducible refine' g_name ?_
  | with_reducible refine' g_ret ?_
  | with_reducible refine' g_if ?_
  | with_reducible refine' g_test ?_
  | with_reducible refine' g_tB ?_
  | with_reducible refine' g_bl ?_
  | ((with_reducible refine' g_eq ?h13 ?k13); (case' h13 => exact rfl))
  | ((with_reducible refine' g_ne ?h14 ?k14); (case' h14 => exact rfl))
  | with_reducible refine' g_CB ?_
  | with_reducible refine' g_call ?_
  | with_reducible refine' g_drop ?_
  | with_reducible refine' g_next ?_
  | with_reducible refine' g_not ?_
  | with_reducible refine' g_and ?_
  | with_reducible refine' g_or ?_
  | with_reducible refine' g_un ?_
  | with_reducible refine' g_U ?_
  | with_reducible refine' g_tup ?_
  | with_reducible refine' g_lst ?_
  | ((with_reducible refine' g_kNew ?h15 ?k15); (case' h15 => wtm_at "ln"); (case' k15 => intro _ _ _ _ _))
  | ((with_reducible refine' g_ixL ?h16 ?a16 ?k16); (case' h16 => wtm_at "sl"); (case' a16 => wtm_at "at"))
  | ((with_reducible refine' g_ixT ?h17 ?a17 ?k17); (case' h17 => wtm_at "st"); (case' a17 => wtm_at "at"))
  | with_reducible refine' g_slice ?_
  | with_reducible refine' g_part ?_
  | with_reducible refine' g_kPart ?_
  | with_reducible refine' g_noPart ?_
  | ((with_reducible refine' g_slL ?h18 ?k18); (case' h18 => wtm_at "sl"); (case' k18 => intro _ _ _ _ _))
  | ((with_reducible refine' g_cat ?h119 ?h219 ?l19 ?k19); (case' h119 => wtm_at "hp"); (case' h219 => wtm_at "hp"); (case' l19 => wtm_at "ln"); (case' k19 => intro _ _ _ _ _))
  | ((with_reducible refine' g_rep ?h120 ?h220 ?h320 ?l20 ?k20); (case' h120 => wtm_at "hp"); (case' h220 => wtm_at "ln"); (case' h320 => wtm_at "ln"); (case' l20 => wtm_at "ln"); (case' k20 => intro _ _ _ _ _))
  | ((with_reducible refine' g_append ?h21 ?l21 ?k21); (case' h21 => wtm_at "hp"); (case' l21 => wtm_at "ln"); (case' k21 => intro _ _ _))
  | ((with_reducible refine' g_kBM ?h22 ?k22); (case' h22 => wtm_at "sl"))
  | ((with_reducible refine' g_kBM0 ?h23 ?k23); (case' h23 => wtm_at "sl"))
  | ((with_reducible refine' g_kL ?h24 ?k24); (case' h24 => wtm_at "sl"))
  | ((with_reducible refine' g_kR1 ?h125 ?h225 ?k25); (case' h125 => wtm_at "ln"); (case' h225 => wtm_at "ln"))
  | ((with_reducible refine' g_kR2 ?h126 ?h226 ?h326 ?h426 ?k26); (case' h126 => wtm_at "ln"); (case' h226 => wtm_at "ln"); (case' h326 => wtm_at "ln"); (case' h426 => wtm_at "ln"))
  | ((with_reducible refine' g_lenL ?h27 ?k27); (case' h27 => wtm_at "sl"))
  | ((with_reducible refine' g_lenT ?h28 ?k28); (case' h28 => wtm_at "st"))
  | ((with_reducible refine' g_listL ?h29 ?k29); (case' h29 => wtm_at "sl"); (case' k29 => intro _ _ _ _ _))
  | ((with_reducible refine' g_tupleL ?h30 ?k30); (case' h30 => wtm_at "sl"); (case' k30 => intro _ _ _ _ _))
  | with_reducible refine' g_max ?_
  | with_reducible refine' g_min ?_
  | with_reducible refine' g_intB ?_
  | with_reducible refine' g_fld ?_
  | with_reducible refine' g_put ?_
  | with_reducible refine' g_dget ?_
  | with_reducible refine' g_isN ?_
  | with_reducible refine' g_notN ?_
  | with_reducible refine' g_ifE ?_
  | with_reducible refine' g_andV ?_
  | with_reducible refine' g_orV ?_
  | with_reducible refine' g_notV ?_
  | with_reducible refine' g_kIf ?_
  | with_reducible refine' g_chain ?_
  | with_reducible refine' g_kCh ?_
  | with_reducible refine' g_sub ?_
  | ((with_reducible refine' g_setI ?h92 ?e92 ?j92 ?k92); (case' h92 => wtm_at "hp"); (case' e92 => first | exact rfl | assumption); (case' j92 => wtm_at "ln"); (case' k92 => intro _ _ _))
  | ((with_reducible refine' g_setL ?h89 ?i89 ?k89); (case' h89 => wtm_at "hp"); (case' i89 => exact ixE rfl (by wtm_at "ln")); (case' k89 => intro _ _ _))
  | ((with_reducible refine' g_gtup ?h93 ?e93 ?k93); (case' h93 => wtm_at "st"); (case' e93 => exact rfl))
  | with_reducible refine' g_gcons ?_
  | with_reducible refine' g_gnil ?_
  | with_reducible refine' g_par ?_
  | with_reducible refine' g_kPar ?_
  | with_reducible refine' g_meth ?_
  | with_reducible refine' g_bm ?_
  | with_reducible refine' g_bm0 ?_
  | with_reducible refine' g_raise ?_
  | with_reducible refine' g_for ?_
  | with_reducible refine' g_iR1 ?_
  | with_reducible refine' g_iR2 ?_
  | with_reducible refine' g_iL ?_
  | with_reducible refine' g_lc ?_
  | with_reducible refine' g_retN ?_
  | with_reducible refine' g_no (b := false) rfl ?_
  | with_reducible refine' g_yes (b := true) rfl ?_)
local macro_rules | `(tactic| wtm_at "go") => `(tactic| repeat (wtm_at "g1"))
local macro_rules | `(tactic| wtm_at "gs") => `(tactic| repeat ((fail_if_success (with_reducible refine' g_ifE ?_)); wtm_at "g1"))
local macro_rules | `(tactic| wtm_at "gi") => `(tactic| repeat ((fail_if_success (with_reducible refine' g_if ?_)); wtm_at "g1"))
local macro_rules | `(tactic| wtm_at "gr") => `(tactic| repeat ((fail_if_success (with_reducible refine' g_ret ?_)); wtm_at "g1"))
local macro_rules | `(tactic| wtm_at "gq") => `(tactic| repeat ((fail_if_success (with_reducible refine' g_asg ?_)); wtm_at "g1"))
section
variable {P : Program} {w : World} {K : PySem.W.Frag} {mg : Str → Option Value} {base : Heap}
local macro_rules | `(tactic| wtm_at "g1") => `(tactic| first
  | ((with_reducible refine' g_fOwn (by assumption) ?h201 ?k201); (case' h201 => wtm_at "hp"))
  | ((with_reducible refine' g_fKey (by assumption) ?h202 ?k202); (case' h202 => wtm_at "hp"))
  | ((with_reducible refine' g_fMem (by assumption) ?h203 ?k203); (case' h203 => wtm_at "hp"))
  | ((with_reducible refine' g_fPri (by assumption) ?h204 ?k204); (case' h204 => wtm_at "hp"))
  | ((with_reducible refine' g_fAwa (by assumption) ?h205 ?k205); (case' h205 => wtm_at "hp"))
  | ((with_reducible refine' g_pAwa (by assumption) ?h206 ?k206); (case' h206 => wtm_at "hp"); (case' k206 => intro _ _ _))
  | ((with_reducible refine' g_kMeth ?h207 ?l207 ?k207); (case' h207 => wtm_at "hp"); (case' l207 => exact rfl)))

/-- write: the steps up to a cut -/
def spWrite (T : Tx K mg) : Sp := fun vs H Q _ => ∃ (p pm pp b : Addr) (μ : Mt) (us : List V) (chs : List (Nat × Int)) (cut : Option Nat), vs = [.ref p, .ref b, cutO cut] ∧ MetAt K T.C_Meter H p pm pp μ ∧ Any μ.cells ∧ SqL K H b us ∧ DpAll K H us ((chs.map chD).map stD) ∧ (∀ c ∈ chs, c.1 < 10) ∧
  ∀ H', Mx [p, pm] H H' → MetAt K T.C_Meter H' p pm pp (writeM μ chs cut).2 → Q (leftV (writeM μ chs cut).1) H'
theorem cut_zero {c : Option Nat} (h : decide (cutO c = V.int 0) = true) : c = some 0 := by
  cases c with
  | none => simp [cutO] at h
  | some k => simp [cutO] at h; simp [h]
theorem cut_pos {c : Option Nat} (h : decide (cutO c = V.int 0) = false) : c ≠ some 0 := by
  rintro rfl
  simp [cutO] at h
theorem scal_cut (c : Option Nat) : scal (cutO c) (.int 0) = true := by cases c <;> rfl
theorem scal_left (c : Option (Option Nat)) : scal (leftV c) (.int (-1)) = true := by cases c with
  | none => rfl
  | some c => cases c <;> rfl
theorem mt_Meter_write (T : Tx K mg) : Me P w K mg base 4 T.C_Meter "write" (spWrite T) [] := by
  refine T.m_Meter_write.me T.cls_Meter sc_Meter_write (fun vs H Q E h => ?_) (fun cdv A outer s H vs Q E hr h => ?_)
  · obtain ⟨_, _, _, _, _, _, _, _, rfl, _⟩ := h
    rfl
  · obtain ⟨p, pm, pp, b, μ, us, chs, cut, rfl, M, hA, hB, hD, hc, k⟩ := h
    have M0 := M
    obtain ⟨⟨dx, ob⟩, me, ⟨ws, pr, dp⟩, ne⟩ := M
    have npm : p ≠ pm := M0.p_pm
    have npp : p ≠ pp := M0.p_pp
    have hl := hA.1
    refine ⟨_, (pss_cons (ps_for (passes_of rfl) rfl (piL K (q_call (c_steps_to T) hr (by decide) rfl (passes_call (takes_of rfl rfl rfl rfl) (fun _ _ _ _ h => h)) (pa_cons (fldK K (pv 0) rfl) (pa_cons (pv 1) pa_nil)))) (pgT K 2 rfl (pgs_cons (pg_name (i := 3) sc_Meter_write.nd rfl (Or.inl rfl)) (pgs_cons (pg_name (i := 4) sc_Meter_write.nd rfl (Or.inl rfl)) pgs_nil)))
      (pss_cons (ps_if (pt_cmpR op_eq (pv 2) pe_int (by first | exact nomark _ | rfl)) (pss_cons (psFld K (pv 0) pe_bl rfl)
      (pss_one (ps_ret (pe_un un_neg pe_int)))) pss_nil)
      (pss_cons (ps_asg (pv 4) (pg_sub (fldK K (pv 0) rfl) (pv 3) set_list))
      (pss_one (ps_set (i := 2) sc_Meter_write.nd rfl (Or.inl rfl) (pe_ifExp (pt_cmp (pc_isN (pv 2)) rfl) pe_non (pe_op op_sub (pv 2) pe_int)))))))
      (pss_one (ps_ret (pv 2)))), ?_⟩
    wtm_at "go"
    refine ⟨pm, b, μ.cells, us, chs, rfl, by wtm_at "sl", hA, hB, hD, hc, fun l H1 st n1 m1 e1 ds => ?_⟩
    wtm_at "go"
    have ls : st.length = 11 := by rw [ds.len, List.length_map, stepsOf_len]
    refine g_forL (xs := st) (fun i σ' H' => ∃ x y, σ' = [some (.ref p), some (.ref b), some (cutO (cut.map fun k => k - i)), x, y] ∧ (∀ k, cut = some k → i ≤ k) ∧ i ≤ 11 ∧ Mx [pm] H1 H' ∧ H' pm = some (.lst ((wr μ.cells (stepsOf μ.cells chs) i).map V.int)))
      ⟨none, none, ?_, fun _ _ => Nat.zero_le _, Nat.zero_le _, Mx.refl, m1.get0 me⟩ (fun i σ' H' _ hP => ?_) (fun i x σ' H' hx hP => ?_) (fun σ' H' hP => ?_)
    · cases cut <;> rfl
    · obtain ⟨_, _, _, _, _, m, _⟩ := hP
      exact .inl (.inl (m _ _ e1 (by simp; exact (ne_of_none me n1).symm)))
    · obtain ⟨x0, y0, rfl, hk, hi, m, e⟩ := hP
      have hi2 : i < 11 := by
        have := (List.getElem?_eq_some_iff.mp hx).1
        omega
      obtain ⟨d, hd, hv⟩ := ds.get' hx
      rw [List.getElem?_map, Option.map_eq_some_iff] at hd
      obtain ⟨s, hs, rfl⟩ := hd
      have hv2 : Dp K H' x (stD s) := hv.mxT m (noTup1 (m1.get0 me)) (by simp [stD, frz, frzAll])
      obtain ⟨t, rfl, ht⟩ := hv2.st
      obtain ⟨j, ej, hj⟩ := stepsOf_ix (List.mem_of_getElem? hs)
      have hw : (wr μ.cells (stepsOf μ.cells chs) i).length = 20 := by rw [wr_len, hl]
      have ob2 : H' p = some (.ins T.C_Meter dx (mFlds μ pm pp)) := m _ _ (m1.get0 ob) (by simpa using npm)
      refine g_gtup ht rfl ?_
      wtm_at "go"
      refine g_eq (scal_cut _) ?_
      wtm_at "go"
      refine g_ite (fun ec => ?_) (fun ec => ?_)
      · have e0 := cut_zero ec
        wtm_at "go"
        rename_i H3 m3 e3
        obtain ⟨c, ec1, ec2⟩ := Option.map_eq_some_iff.mp e0
        have := hk c ec1
        have eci : c = i := by omega
        subst eci
        have ew : writeM μ chs cut = (none, { μ with cells := wr μ.cells (stepsOf μ.cells chs) c, up := false }) := by
          rw [ec1]
          simp only [writeM, if_pos hi2]
        rw [ew] at k
        refine k H3 (((m1.of0).trans (m.mono (by simp))).trans (m3.mono (by simp))) ⟨⟨dx, e3⟩, ?_, ⟨ws, ?_, ?_⟩, ne⟩
        · exact m3 _ _ e (by simpa using npm.symm)
        · exact m3 _ _ (m _ _ (m1.get0 pr) (by simpa using ne.symm)) (by simpa using npp.symm)
        · exact m3.sts (noTupI ob2) (m.sts (noTup1 (m1.get0 me)) (dp.mx m1))
      · have e0 := cut_pos ec
        wtm_at "go"
        rename_i H3 m3 e3
        refine g_ite (fun en => ?_) (fun en => ?_)
        · have ec0 : cut = none := by
            cases cut with
            | none => rfl
            | some c => simp [cutO] at en
          subst ec0
          wtm_at "go"
          refine ⟨_, _, rfl, fun _ z => by simp at z, hi2, m.trans m3, ?_⟩
          rw [e3, wr_succ hs, ej]
          rfl
        · cases cut with
          | none => simp [cutO] at en
          | some c =>
            have hci : i < c := by
              have := hk c rfl
              have : c - i ≠ 0 := fun z => e0 (by simp [z])
              omega
            simp only [Option.map_some, cutO]
            wtm_at "go"
            refine ⟨some (.int s.1), some (.int s.2), ?_, fun k ek => by cases ek; exact hci, hi2, m.trans m3, ?_⟩
            · have : ((c - i : Nat) : Int) - 1 = ((c - (i + 1) : Nat) : Int) := by omega
              rw [this]
              rfl
            · rw [e3, wr_succ hs, ej]
              rfl
    · obtain ⟨x0, y0, rfl, hk, hi, m, e⟩ := hP
      rw [ls] at e hk hi
      wtm_at "go"
      have ew : leftV (writeM μ chs cut).1 = cutO (cut.map fun k => k - 11) ∧ (writeM μ chs cut).2 = { μ with cells := wr μ.cells (stepsOf μ.cells chs) 11 } := by
        cases cut with
        | none => exact ⟨rfl, rfl⟩
        | some c =>
          have := hk c rfl
          have hw : writeM μ chs (some c) = (some (some (c - 11)), { μ with cells := wr μ.cells (stepsOf μ.cells chs) 11 }) := if_neg (show ¬ c < 11 by omega)
          rw [hw]
          exact ⟨rfl, rfl⟩
      rw [ew.1, ew.2] at k
      rw [ls]
      refine k H' ((m1.of0).trans (m.mono (by simp))) ⟨⟨dx, m _ _ (m1.get0 ob) (by simpa using npm)⟩, e, ⟨ws, m _ _ (m1.get0 pr) (by simpa using ne.symm), m.sts (noTup1 (m1.get0 me)) (dp.mx m1)⟩, ne⟩
/-- owed -/
theorem last_at {vs : List V} {ss : List (Int × Int)} {H : Hp} (d : DpAll K H vs (ss.map stD)) (hn : ss ≠ []) : ∃ v, atI vs (-1) = some v ∧ ∃ s, ss.getLast? = some s ∧ Dp K H v (stD s) := by
  have hl := d.len
  rw [List.length_map] at hl
  have h0 : ss.length ≠ 0 := fun z => hn (List.length_eq_zero_iff.mp z)
  obtain ⟨s, hs⟩ : ∃ s, ss[ss.length - 1]? = some s := ⟨_, List.getElem?_eq_getElem (by omega)⟩
  obtain ⟨v, hv, hd⟩ := d.get (i := ss.length - 1) (d := stD s) (by rw [List.getElem?_map, hs]; rfl)
  refine ⟨v, ?_, s, by rw [List.getLast?_eq_getElem?]; exact hs, hd⟩
  unfold atI ixN
  rw [if_neg (by omega), if_pos (by omega)]
  show vs[(-1 + (vs.length : Int)).toNat]? = some v
  rw [show (-1 + (vs.length : Int)).toNat = ss.length - 1 by omega]
  exact hv
def spOwed (T : Tx K mg) : Sp := fun vs H Q _ => ∃ (p pm pp : Addr) (μ : Mt), vs = [.ref p] ∧ MetAt K T.C_Meter H p pm pp μ ∧ Any μ.cells ∧
  match owed μ with
  | none => ∀ H', Mx [] H H' → Q .non H'
  | some s => ∀ l H', H l = none → Mx [] H H' → H' l = some (.tup [.int s.1, .int s.2]) → Q (.ref l) H'
theorem mt_Meter_owed (T : Tx K mg) : Me P w K mg base 3 T.C_Meter "owed" (spOwed T) [] := by
  refine T.m_Meter_owed.me T.cls_Meter sc_Meter_owed (fun vs H Q E h => ?_) (fun cdv A outer s H vs Q E hr h => ?_)
  · obtain ⟨_, _, _, _, rfl, _⟩ := h
    rfl
  · obtain ⟨p, pm, pp, μ, rfl, ⟨⟨dx, ob⟩, me, ⟨ws, pr, dp⟩, ne⟩, hA, q⟩ := h
    have hl := hA.1
    have hb := bank_len hl
    refine ⟨_, (pss_cons (ps_set (i := 1) sc_Meter_owed.nd rfl (Or.inl rfl) (q_call (c_bank_of T) hr (by decide) rfl (passes_call (takes_of rfl rfl rfl rfl) (fun _ _ _ _ h => h)) (pa_cons (fldK K (pv 0) rfl) pa_nil)))
      (pss_cons (ps_set (i := 2) sc_Meter_owed.nd rfl (Or.inl rfl) (pe_ifExp (pt_cmpR (opNeD K hr.units) (fldK K (pv 0) rfl) (pe_lst pa_nil) (by first | exact nomark _ | rfl)) (pe_ix (ixT K) (pe_ix (ixL K) (fldK K (pv 0) rfl) (pe_un un_neg pe_int) (fun _ _ => rfl)) pe_int (fun _ _ => rfl)) pe_int))
      (pss_one (ps_ret (pe_ifExp (pt_cmpR op_gt (pe_ix (ixL K) (pv 1) (q_const T.g_STAMP rfl) (fun _ _ => rfl)) (pv 2) (by first | exact nomark _ | rfl)) (pe_tup (pa_cons (pe_ix (ixL K) (pv 1) (q_const T.g_STAMP rfl) (fun _ _ => rfl)) (pa_cons (pe_ix (ixL K) (pv 1) (q_const T.g_AMOUNT rfl) (fun _ _ => rfl)) pa_nil))) pe_non))))), ?_⟩
    wtm_at "go"
    refine ⟨pm, μ.cells, rfl, by wtm_at "sl", by omega, fun _ b H1 n1 m1 e1 => ?_, fun z => absurd hA z⟩
    wtm_at "go"
    rename_i l H2 n2 m2 e2
    refine g_neS (xs := μ.stamps) (ys := []) (.lst (by wtm_at "sl") ((dp.mx m1).mx m2)) (.lst (by wtm_at "sl") .nil) ?_
    wtm_at "go"
    refine g_ite (fun e => ?_) (fun e => ?_)
    · have hn : μ.stamps ≠ [] := by simpa using e
      obtain ⟨v, hv, s, hs, hd⟩ := last_at ((dp.mx m1).mx m2) hn
      obtain ⟨t, rfl, ht⟩ := hd.st
      wtm_at "go"
      have ez : s.1 = lastNo μ.stamps := by unfold lastNo; rw [hs]
      refine g_ite (fun e => ?_) (fun e => ?_)
      · have eo : owed μ = some (bk μ 8, bk μ 9) := if_pos (by rw [← ez]; simpa [bk] using e)
        rw [eo] at q
        wtm_at "go"
        exact q _ _ (by wtm_at "fr") (by wtm_at "mo") (by assumption)
      · have eo : owed μ = none := if_neg (by rw [← ez]; simpa [bk] using e)
        rw [eo] at q
        wtm_at "go"
        exact q _ (by wtm_at "mo")
    · have hn : μ.stamps = [] := by simpa using e
      wtm_at "go"
      have ez : (0 : Int) = lastNo μ.stamps := by rw [hn]; rfl
      refine g_ite (fun e => ?_) (fun e => ?_)
      · have eo : owed μ = some (bk μ 8, bk μ 9) := if_pos (by rw [← ez]; simpa [bk] using e)
        rw [eo] at q
        wtm_at "go"
        exact q _ _ (by wtm_at "fr") (by wtm_at "mo") (by assumption)
      · have eo : owed μ = none := if_neg (by rw [← ez]; simpa [bk] using e)
        rw [eo] at q
        wtm_at "go"
        exact q _ (by wtm_at "mo")
/-- print_owed -/
def spPrintOwed (T : Tx K mg) : Sp := fun vs H Q _ => ∃ (p pm pp : Addr) (μ : Mt) (cut : Option Nat), vs = [.ref p, cutO cut] ∧ MetAt K T.C_Meter H p pm pp μ ∧ Any μ.cells ∧ μ.stamps.length < 1000 ∧
  ∀ H', Mx [p, pp] H H' → MetAt K T.C_Meter H' p pm pp (printM μ cut).2 → Q (.bl (printM μ cut).1) H'
theorem mt_Meter_print_owed (T : Tx K mg) : Me P w K mg base 4 T.C_Meter "print_owed" (spPrintOwed T) [] := by
  refine T.m_Meter_print_owed.me T.cls_Meter sc_Meter_print_owed (fun vs H Q E h => ?_) (fun cdv A outer s H vs Q E hr h => ?_)
  · obtain ⟨_, _, _, _, _, rfl, _⟩ := h
    rfl
  · obtain ⟨p, pm, pp, μ, cut, rfl, M, hA, hst, k⟩ := h
    have M0 := M
    obtain ⟨⟨dx, ob⟩, me, ⟨ws, pr, dp⟩, ne⟩ := M
    have npm : p ≠ pm := M0.p_pm
    have npp : p ≠ pp := M0.p_pp
    have lw : ws.length < 1000 := by rw [dp.len, List.length_map]; exact hst
    refine ⟨_, (pss_cons (ps_set (i := 2) sc_Meter_print_owed.nd rfl (Or.inl rfl) (q_meth0 (mt_Meter_owed T) hr (by decide) (pv 0) (passes_call (takes_of rfl rfl rfl rfl) (fun _ _ _ _ h => h))))
      (pss_cons (ps_if (PW.pt (pw_and (pt_cmp (pc_notN (pv 2)) rfl) (pw_and1 (pt_cmpR op_eq (pv 1) pe_int (by first | exact nomark _ | rfl))))) (pss_cons (psFld K (pv 0) pe_bl rfl)
      (pss_one (ps_ret pe_bl))) pss_nil)
      (pss_cons (ps_if (pt_cmp (pc_notN (pv 2)) rfl) (pss_one (ps_expr (bmK K PySem.F.plainAttrs_list PySem.F.slot_list_append PySem.F.type_list_append mt_append (fldK K (pv 0) rfl) (pa_cons (pv 2) pa_nil)))) pss_nil)
      (pss_one (ps_ret pe_bl))))), ?_⟩
    wtm_at "go"
    refine ⟨p, pm, pp, μ, rfl, M0, hA, ?_⟩
    cases eo : owed μ with
    | none =>
      intro H1 m1
      have ep : printM μ cut = (true, μ) := by simp only [printM, eo]
      rw [ep] at k
      wtm_at "go"
      refine g_no (by simp) ?_
      wtm_at "go"
      refine g_no (by simp) ?_
      wtm_at "go"
      exact k _ m1.of0 (M0.mx0 m1)
    | some s =>
      intro l H1 n1 m1 e1
      wtm_at "go"
      refine g_yes (by simp) ?_
      wtm_at "go"
      refine g_eq (scal_cut _) ?_
      wtm_at "go"
      refine g_ite (fun e => ?_) (fun e => ?_)
      · have e0 := cut_zero e
        subst e0
        have ep : printM μ (some 0) = (false, { μ with up := false }) := by simp only [printM, eo, if_pos]
        rw [ep] at k
        wtm_at "go"
        rename_i H3 m3 e3
        refine k _ ((m1.of0).trans (m3.mono (by simp))) ⟨⟨dx, e3⟩, ?_, ⟨ws, ?_, ?_⟩, ne⟩
        · exact m3 _ _ (m1.get0 me) (by simpa using npm.symm)
        · exact m3 _ _ (m1.get0 pr) (by simpa using npp.symm)
        · exact m3.sts (noTupI (m1.get0 ob)) (dp.mx m1)
      · have e0 := cut_pos e
        have ep : printM μ cut = (true, { μ with stamps := μ.stamps ++ [s] }) := by simp only [printM, eo, if_neg e0]
        rw [ep] at k
        wtm_at "go"
        refine g_yes (by simp) ?_
        wtm_at "go"
        rename_i H3 m3 e3
        refine k _ ((m1.of0).trans (m3.mono (by simp))) ⟨⟨dx, m3 _ _ (m1.get0 ob) (by simpa using npp)⟩, ?_, ⟨_, e3, ?_⟩, ne⟩
        · exact m3 _ _ (m1.get0 me) (by simpa using ne)
        · rw [List.map_append]
          refine .app (m3.sts (noTup1 (m1.get0 pr)) (dp.mx m1)) (.cons (.mkSt (.of (m3 _ _ e1 ?_))) .nil)
          simp
          rintro rfl
          rw [pr] at n1
          cases n1
end
end Fk
namespace Fk
open PySem PySem.Spec PyProof.Rows L2
local macro_rules | `(tactic| wtm_at "ln") => `(tactic| first
  | omega
  | (simp only [List.length_cons, List.length_nil, List.length_map, List.length_append, List.length_replicate, List.length_take, List.length_drop, List.length_set]; omega)
  | (with_unfolding_all exact (by decide)))
local macro_rules | `(tactic| wtm_at "ar") => `(tactic| first
  | ((with_reducible show CMulW _ _); (refine' mulS ?_ ?_ <;> omega))
  | ((with_reducible show CDivW _ _); (refine' divS ?_ ?_ <;> omega))
  | ((with_reducible show CPow _ _); exact ⟨by decide, by decide, by decide⟩)
  | (show (0 : Int) < _; omega)
  | (with_unfolding_all exact (by decide)))
local macro_rules | `(tactic| wtm_at "at") => `(tactic| first
  | assumption
  | (refine' cl_atE ?e80 ?h80; (case' e80 => first | exact rfl | assumption); (case' h80 => wtm_at "ln"))
  | exact rfl)
local macro_rules | `(tactic| wtm_at "fr") => `(tactic| first
  | assumption
  | ((with_reducible refine' Mx.free0 ?m99 ?h99); (case' h99 => assumption); (case' m99 => wtm_at "mo")))
local macro_rules | `(tactic| wtm_at "hp") => `(tactic| first
  | assumption
  | ((with_reducible refine' Mx.get0 ?m1 ?h1); (case' m1 => assumption); (case' h1 => wtm_at "hp"))
  | ((with_reducible refine' Mx.get ?m2 ?n2 ?h2); (case' m2 => assumption); (case' n2 => wtm_at "nin"); (case' h2 => wtm_at "hp")))
local macro_rules | `(tactic| wtm_at "sl") => `(tactic| first
  | assumption
  | ((with_reducible refine' Mx.sqL0 ?m96 ?h96); (case' h96 => assumption); (case' m96 => wtm_at "mo"))
  | (refine' SqL.of ?h3; (case' h3 => wtm_at "hp"))
  | ((with_reducible refine' Mx.sqL0 ?m4 ?h4); (case' m4 => assumption); (case' h4 => wtm_at "sl"))
  | ((with_reducible refine' Mx.sqL ?m5 ?n5 ?h5); (case' m5 => assumption); (case' n5 => wtm_at "nin"); (case' h5 => wtm_at "sl")))
local macro_rules | `(tactic| wtm_at "st") => `(tactic| first
  | assumption
  | ((with_reducible refine' Mx.sqT0 ?m97 ?h97); (case' h97 => assumption); (case' m97 => wtm_at "mo"))
  | (refine' SqT.of ?h6; (case' h6 => wtm_at "hp"))
  | ((with_reducible refine' Mx.sqT0 ?m7 ?h7); (case' m7 => assumption); (case' h7 => wtm_at "st"))
  | ((with_reducible refine' Mx.sqT ?m8 ?n8 ?h8); (case' m8 => assumption); (case' n8 => wtm_at "nin"); (case' h8 => wtm_at "st")))
local macro_rules | `(tactic| wtm_at "mx") => `(tactic| first
  | assumption
  | exact Mx.refl
  | ((with_reducible refine' Mx.of0 ?h9); (case' h9 => assumption))
  | ((with_reducible refine' Mx.trans ?h10 ?m10); (case' m10 => first | assumption | ((with_reducible refine' Mx.of0 ?q10); (case' q10 => assumption))); (case' h10 => wtm_at "mx")))
local macro_rules | `(tactic| wtm_at "mo") => `(tactic| first
  | wtm_at "mx"
  | ((with_reducible refine' Mx.own ?m90 ?f90 ?k90); (case' k90 => assumption); (case' f90 => wtm_at "fr"); (case' m90 => wtm_at "mo"))
  | ((with_reducible refine' Mx.trans ?h91 ?m91); (case' m91 => first | assumption | ((with_reducible refine' Mx.of0 ?q91); (case' q91 => assumption))); (case' h91 => wtm_at "mo")))
local macro_rules | `(tactic| wtm_at "ne") => `(tactic| first
  | assumption
  | exact Ne.symm (by assumption)
  | ((with_reducible refine' ne_of_none ?x94 ?y94); (case' y94 => assumption); (case' x94 => wtm_at "hp"))
  | ((with_reducible refine' Ne.symm (ne_of_none ?x95 ?y95)); (case' y95 => assumption); (case' x95 => wtm_at "hp")))
local macro_rules | `(tactic| wtm_at "nin") => `(tactic| first
  | assumption
  | exact List.not_mem_nil
  | ((with_reducible refine' List.not_mem_cons_of_ne_of_not_mem ?h98 ?t98); (case' h98 => wtm_at "ne"); (case' t98 => wtm_at "nin")))
local macro_rules | `(tactic| wtm_at "g1") => `(tactic| first
  | ((with_reducible refine' g_var ?h11 ?k11); (case' h11 => exact rfl))
  | with_reducible refine' g_c ?_
  | with_reducible refine' g_op ?_
  | with_reducible refine' g_I0 ?_
  | ((with_reducible refine' g_I ?c12 ?k12); (case' c12 => wtm_at "ar"))
  | with_reducible refine' g_cons ?_
  | with_reducible refine' g_nil ?_
  | with_reducible refine' g_seq ?_
  | with_reducible refine' g_asg ?_
  | with_reducible refine' g_name ?_
  | with_reducible refine' g_ret ?_
  | with_reducible refine' g_if ?_
  | with_reducible refine' g_test ?_
  | with_reducible refine' g_tB ?_
  | with_reducible refine' g_bl ?_
  | ((with_reducible refine' g_eq ?h13 ?k13); (case' h13 => exact rfl))
  | ((with_reducible refine' g_ne ?h14 ?k14); (case' h14 => exact rfl))
  | with_reducible refine' g_CB ?_
  | with_reducible refine' g_call ?_
  | with_reducible refine' g_drop ?_
  | with_reducible refine' g_next ?_
  | with_reducible refine' g_not ?_
  | with_reducible refine' g_and ?_
  | with_reducible refine' g_or ?_
  | with_reducible refine' g_un ?_
  | with_reducible refine' g_U ?_
  | with_reducible refine' g_tup ?_
  | with_reducible refine' g_lst ?_
  | ((with_reducible refine' g_kNew ?h15 ?k15); (case' h15 => wtm_at "ln"); (case' k15 => intro _ _ _ _ _))
  | ((with_reducible refine' g_ixL ?h16 ?a16 ?k16); (case' h16 => wtm_at "sl"); (case' a16 => wtm_at "at"))
  | ((with_reducible refine' g_ixT ?h17 ?a17 ?k17); (case' h17 => wtm_at "st"); (case' a17 => wtm_at "at"))
  | with_reducible refine' g_slice ?_
  | with_reducible refine' g_part ?_
  | with_reducible refine' g_kPart ?_
  | with_reducible refine' g_noPart ?_
  | ((with_reducible refine' g_slL ?h18 ?k18); (case' h18 => wtm_at "sl"); (case' k18 => intro _ _ _ _ _))
  | ((with_reducible refine' g_cat ?h119 ?h219 ?l19 ?k19); (case' h119 => wtm_at "hp"); (case' h219 => wtm_at "hp"); (case' l19 => wtm_at "ln"); (case' k19 => intro _ _ _ _ _))
  | ((with_reducible refine' g_rep ?h120 ?h220 ?h320 ?l20 ?k20); (case' h120 => wtm_at "hp"); (case' h220 => wtm_at "ln"); (case' h320 => wtm_at "ln"); (case' l20 => wtm_at "ln"); (case' k20 => intro _ _ _ _ _))
  | ((with_reducible refine' g_append ?h21 ?l21 ?k21); (case' h21 => wtm_at "hp"); (case' l21 => wtm_at "ln"); (case' k21 => intro _ _ _))
  | ((with_reducible refine' g_kBM ?h22 ?k22); (case' h22 => wtm_at "sl"))
  | ((with_reducible refine' g_kBM0 ?h23 ?k23); (case' h23 => wtm_at "sl"))
  | ((with_reducible refine' g_kL ?h24 ?k24); (case' h24 => wtm_at "sl"))
  | ((with_reducible refine' g_kR1 ?h125 ?h225 ?k25); (case' h125 => wtm_at "ln"); (case' h225 => wtm_at "ln"))
  | ((with_reducible refine' g_kR2 ?h126 ?h226 ?h326 ?h426 ?k26); (case' h126 => wtm_at "ln"); (case' h226 => wtm_at "ln"); (case' h326 => wtm_at "ln"); (case' h426 => wtm_at "ln"))
  | ((with_reducible refine' g_lenL ?h27 ?k27); (case' h27 => wtm_at "sl"))
  | ((with_reducible refine' g_lenT ?h28 ?k28); (case' h28 => wtm_at "st"))
  | ((with_reducible refine' g_listL ?h29 ?k29); (case' h29 => wtm_at "sl"); (case' k29 => intro _ _ _ _ _))
  | ((with_reducible refine' g_tupleL ?h30 ?k30); (case' h30 => wtm_at "sl"); (case' k30 => intro _ _ _ _ _))
  | with_reducible refine' g_max ?_
  | with_reducible refine' g_min ?_
  | with_reducible refine' g_intB ?_
  | with_reducible refine' g_fld ?_
  | with_reducible refine' g_put ?_
  | with_reducible refine' g_dget ?_
  | with_reducible refine' g_isN ?_
  | with_reducible refine' g_notN ?_
  | with_reducible refine' g_ifE ?_
  | with_reducible refine' g_andV ?_
  | with_reducible refine' g_orV ?_
  | with_reducible refine' g_notV ?_
  | with_reducible refine' g_kIf ?_
  | with_reducible refine' g_chain ?_
  | with_reducible refine' g_kCh ?_
  | with_reducible refine' g_sub ?_
  | ((with_reducible refine' g_setI ?h92 ?e92 ?j92 ?k92); (case' h92 => wtm_at "hp"); (case' e92 => first | exact rfl | assumption); (case' j92 => wtm_at "ln"); (case' k92 => intro _ _ _))
  | ((with_reducible refine' g_setL ?h89 ?i89 ?k89); (case' h89 => wtm_at "hp"); (case' i89 => exact ixE rfl (by wtm_at "ln")); (case' k89 => intro _ _ _))
  | ((with_reducible refine' g_gtup ?h93 ?e93 ?k93); (case' h93 => wtm_at "st"); (case' e93 => exact rfl))
  | with_reducible refine' g_gcons ?_
  | with_reducible refine' g_gnil ?_
  | with_reducible refine' g_par ?_
  | with_reducible refine' g_kPar ?_
  | with_reducible refine' g_meth ?_
  | with_reducible refine' g_bm ?_
  | with_reducible refine' g_bm0 ?_
  | with_reducible refine' g_raise ?_
  | with_reducible refine' g_for ?_
  | with_reducible refine' g_iR1 ?_
  | with_reducible refine' g_iR2 ?_
  | with_reducible refine' g_iL ?_
  | with_reducible refine' g_lc ?_
  | with_reducible refine' g_retN ?_
  | with_reducible refine' g_no (b := false) rfl ?_
  | with_reducible refine' g_yes (b := true) rfl ?_)
local macro_rules | `(tactic| wtm_at "go") => `(tactic| repeat (wtm_at "g1"))
local macro_rules | `(tactic| wtm_at "gs") => `(tactic| repeat ((fail_if_success (with_reducible refine' g_ifE ?_)); wtm_at "g1"))
local macro_rules | `(tactic| wtm_at "gi") => `(tactic| repeat ((fail_if_success (with_reducible refine' g_if ?_)); wtm_at "g1"))
local macro_rules | `(tactic| wtm_at "gr") => `(tactic| repeat ((fail_if_success (with_reducible refine' g_ret ?_)); wtm_at "g1"))
local macro_rules | `(tactic| wtm_at "gq") => `(tactic| repeat ((fail_if_success (with_reducible refine' g_asg ?_)); wtm_at "g1"))
/-! ### the plain law of a bank written -/
theorem cl_set_ne {cs : List Int} {i j : Nat} {v : Int} (h : j ≠ i) : cl (cs.set i v) j = cl cs j := by
  unfold cl
  rw [List.getD_eq_getElem?_getD, List.getD_eq_getElem?_getD, List.getElem?_set_ne (Ne.symm h)]
theorem cl_set_eq {cs : List Int} {i : Nat} {v : Int} (h : i < cs.length) : cl (cs.set i v) i = v := by
  unfold cl
  rw [List.getD_eq_getElem?_getD, List.getElem?_set_self h]
  rfl
theorem cl_map_range {n i : Nat} {f : Nat → Int} (h : i < n) : cl ((List.range n).map f) i = f i := by
  unfold cl
  rw [List.getD_eq_getElem?_getD, List.getElem?_map, List.getElem?_range h]
  rfl
theorem ext_cl {xs ys : List Int} (h : xs.length = ys.length) (e : ∀ i, i < xs.length → cl xs i = cl ys i) : xs = ys := by
  apply List.ext_getElem h
  intro i h1 h2
  have := e i h1
  unfold cl at this
  rw [List.getD_eq_getElem?_getD, List.getD_eq_getElem?_getD, List.getElem?_eq_getElem h1, List.getElem?_eq_getElem h2] at this
  exact this
theorem cl_take {cs : List Int} {n i : Nat} (h : i < n) : cl (cs.take n) i = cl cs i := by
  unfold cl
  rw [List.getD_eq_getElem?_getD, List.getD_eq_getElem?_getD, List.getElem?_take_of_lt h]
theorem cl_drop {cs : List Int} {n i : Nat} : cl (cs.drop n) i = cl cs (n + i) := by
  unfold cl
  rw [List.getD_eq_getElem?_getD, List.getD_eq_getElem?_getD, List.getElem?_drop]
theorem cl_bank {cs : List Int} {i : Nat} (h : i < 10) : cl (bank cs) i = cl cs (stand cs * 10 + i) := by
  unfold bank
  rw [cl_take h, cl_drop]
theorem stand_whole {cs : List Int} (h : Any cs) : cl cs (stand cs * 10) = 1 := by
  unfold stand
  split
  · rename_i z; simpa using z.1
  · rename_i z
    rcases h.2 with e | e
    · exact Classical.byContradiction fun q => z ⟨e, fun y => q (by simpa using y.1)⟩
    · simpa using e
theorem other_stand (cs : List Int) : (stand cs = 0 ∧ other cs = 10) ∨ (stand cs = 1 ∧ other cs = 0) := by
  have := stand_le cs
  unfold other
  omega
/-- what the steps leave at a cell: by the steps done -/
theorem wr_other {cs : List Int} {chs : List (Nat × Int)} {k j : Nat} (h : ∀ s ∈ stepsOf cs chs, s.1 ≠ (j : Int)) : cl (wr cs (stepsOf cs chs) k) j = cl cs j := by
  induction k with
  | zero => rfl
  | succ k ih =>
    cases e : (stepsOf cs chs)[k]? with
    | none =>
      have : wr cs (stepsOf cs chs) (k + 1) = wr cs (stepsOf cs chs) k := by
        have hk := List.getElem?_eq_none_iff.mp e
        unfold wr
        rw [List.take_of_length_le hk, List.take_of_length_le (by omega)]
      rw [this, ih]
    | some s =>
      rw [wr_succ e, cl_set_ne ?_, ih]
      have := h s (List.mem_of_getElem? e)
      obtain ⟨i, ei, _⟩ := stepsOf_ix (List.mem_of_getElem? e)
      omega
theorem steps_in {cs : List Int} {chs : List (Nat × Int)} {s : Int × Int} (h : s ∈ stepsOf cs chs) : (other cs : Int) ≤ s.1 ∧ s.1 < other cs + 10 := by
  simp only [stepsOf, List.cons_append, List.mem_cons, List.mem_append, List.mem_map, List.mem_range, List.not_mem_nil, or_false] at h
  rcases h with h | ⟨k, hk, h⟩ | h
  · rw [h]; simp; omega
  · rw [← h]; simp; omega
  · rw [h]; simp; omega
theorem wr_stand {cs : List Int} {chs : List (Nat × Int)} {k i : Nat} (h : i < 10) : cl (wr cs (stepsOf cs chs) k) (stand cs * 10 + i) = cl cs (stand cs * 10 + i) := by
  refine wr_other fun s hs => ?_
  have := steps_in hs
  rcases other_stand cs with ⟨a, b⟩ | ⟨a, b⟩ <;> rw [a] <;> rw [b] at this <;> simp at * <;> omega
theorem any_wr {cs : List Int} {chs : List (Nat × Int)} {k : Nat} (h : Any cs) : Any (wr cs (stepsOf cs chs) k) := by
  have hw := stand_whole h
  have := wr_stand (cs := cs) (chs := chs) (k := k) (i := 0) (by omega)
  simp only [Nat.add_zero] at this
  refine ⟨by rw [wr_len]; exact h.1, ?_⟩
  rcases other_stand cs with ⟨a, b⟩ | ⟨a, b⟩ <;> rw [a] at this hw <;> simp at this hw
  · exact .inl (this.trans hw)
  · exact .inr (this.trans hw)
/-- the first k steps: the other bank's whole is 0, then its cells one by one -/
theorem wr_do {cs : List Int} {chs : List (Nat × Int)} (hl : cs.length = 20) : ∀ k, k < 10 → ∀ i, i < 10 → cl (wr cs (stepsOf cs chs) (k + 1)) (other cs + i) = if i = 0 then 0 else if i ≤ k then cl (news cs chs) i else cl cs (other cs + i) := by
  have ho := other_le cs
  intro k
  induction k with
  | zero =>
    intro _ i hi
    have e : (stepsOf cs chs)[0]? = some ((other cs : Int), 0) := rfl
    rw [wr_succ e]
    show cl ((wr cs (stepsOf cs chs) 0).set ((other cs : Int).toNat) 0) _ = _
    by_cases h : i = 0
    · subst h
      simp only [Int.toNat_natCast, Nat.add_zero, if_true]
      rw [cl_set_eq]
      rw [wr_len]; omega
    · rw [if_neg h, if_neg (by omega), cl_set_ne (by simp; omega)]
      rfl
  | succ k ih =>
    intro hk i hi
    have e : (stepsOf cs chs)[k + 1]? = some ((other cs : Int) + (1 + (k : Int)), cl (news cs chs) (k + 1)) := by
      unfold stepsOf
      rw [List.cons_append, List.getElem?_cons_succ, List.getElem?_append_left (by simp; omega)]
      simp [show k < 9 by omega]
    rw [wr_succ e]
    show cl ((wr cs (stepsOf cs chs) (k + 1)).set (((other cs : Int) + (1 + (k : Int))).toNat) (cl (news cs chs) (k + 1))) _ = _
    have et : ((other cs : Int) + (1 + (k : Int))).toNat = other cs + (k + 1) := by omega
    rw [et]
    by_cases h : i = k + 1
    · subst h
      rw [cl_set_eq (by rw [wr_len]; omega), if_neg (by omega), if_pos (by omega)]
    · rw [cl_set_ne (by omega), ih (by omega) i hi]
      by_cases h0 : i = 0
      · rw [if_pos h0, if_pos h0]
      · rw [if_neg h0, if_neg h0]
        by_cases h1 : i ≤ k
        · rw [if_pos h1, if_pos (by omega)]
        · rw [if_neg h1, if_neg (by omega)]
theorem wr_all {cs : List Int} {chs : List (Nat × Int)} (hl : cs.length = 20) {i : Nat} (hi : i < 10) : cl (wr cs (stepsOf cs chs) 11) (other cs + i) = if i = 0 then 1 else cl (news cs chs) i := by
  have ho := other_le cs
  have e : (stepsOf cs chs)[10]? = some ((other cs : Int), 1) := rfl
  rw [wr_succ e]
  show cl ((wr cs (stepsOf cs chs) 10).set ((other cs : Int).toNat) 1) _ = _
  simp only [Int.toNat_natCast]
  by_cases h : i = 0
  · subst h
    simp only [Nat.add_zero, if_true]
    rw [cl_set_eq]
    rw [wr_len]; omega
  · rw [if_neg h, cl_set_ne (by omega), wr_do hl 9 (by omega) i hi, if_neg h, if_pos (by omega)]
/-- changes are told of places from 2 on -/
def Chs (chs : List (Nat × Int)) : Prop := ∀ c ∈ chs, 2 ≤ c.1 ∧ c.1 < 10
theorem foldl_cl {chs : List (Nat × Int)} : ∀ {b : List Int} {i : Nat}, (∀ c ∈ chs, c.1 ≠ i) → cl (chs.foldl (fun b c => b.set c.1 c.2) b) i = cl b i := by
  induction chs with
  | nil => intros; rfl
  | cons c r ih =>
    intro b i h
    rw [List.foldl_cons, ih fun c hc => h c (List.mem_cons_of_mem _ hc), cl_set_ne (Ne.symm (h c List.mem_cons_self))]
theorem news_0 {cs : List Int} {chs : List (Nat × Int)} (hA : Any cs) (hc : Chs chs) : cl (news cs chs) 0 = 1 := by
  unfold news
  rw [foldl_cl (fun c h => by have := hc c h; omega), cl_set_ne (by omega), cl_bank (by omega)]
  exact stand_whole hA
theorem news_1 {cs : List Int} {chs : List (Nat × Int)} (hA : Any cs) (hc : Chs chs) : cl (news cs chs) 1 = cl (bank cs) 1 + 1 := by
  unfold news
  rw [foldl_cl (fun c h => by have := hc c h; omega), cl_set_eq (by rw [bank_len hA.1]; omega)]
/-- behind all eleven steps the other bank stands, with the news -/
theorem stand_wr {cs : List Int} {chs : List (Nat × Int)} (hA : Any cs) (hc : Chs chs) : stand (wr cs (stepsOf cs chs) 11) = 1 - stand cs := by
  have hw := stand_whole hA
  have w0 := wr_all (chs := chs) hA.1 (i := 0) (by omega)
  have w1 := wr_all (chs := chs) hA.1 (i := 1) (by omega)
  have s0 := wr_stand (cs := cs) (chs := chs) (k := 11) (i := 0) (by omega)
  have s1 := wr_stand (cs := cs) (chs := chs) (k := 11) (i := 1) (by omega)
  have n1 := news_1 hA hc
  rw [cl_bank (by omega)] at n1
  simp only [Nat.add_zero, if_true] at w0 s0
  rw [if_neg (by omega), n1] at w1
  rcases other_stand cs with ⟨a, b⟩ | ⟨a, b⟩ <;> simp only [a, b, Nat.zero_mul, Nat.one_mul, Nat.zero_add, Nat.reduceAdd, Nat.reduceSub] at w0 w1 s0 s1 hw ⊢
  · unfold stand
    rw [if_neg]
    intro z
    exact z.2 ⟨w0, by omega⟩
  · unfold stand
    rw [if_pos]
    exact ⟨w0, fun z => by omega⟩
theorem bank_wr {cs : List Int} {chs : List (Nat × Int)} (hA : Any cs) (hc : Chs chs) : bank (wr cs (stepsOf cs chs) 11) = news cs chs := by
  have hl : (wr cs (stepsOf cs chs) 11).length = 20 := by rw [wr_len]; exact hA.1
  refine ext_cl (by rw [bank_len hl, news_len hA.1]) fun i hi => ?_
  rw [bank_len hl] at hi
  rw [cl_bank hi, stand_wr hA hc]
  have : (1 - stand cs) * 10 = other cs := rfl
  rw [this, wr_all hA.1 hi]
  by_cases h : i = 0
  · rw [if_pos h, h, news_0 hA hc]
  · rw [if_neg h]
/-- cut off ahead of the last step, the bank that stood stands -/
theorem stand_wr_cut {cs : List Int} {chs : List (Nat × Int)} (hA : Any cs) {k : Nat} (hk : k < 11) : stand (wr cs (stepsOf cs chs) k) = stand cs := by
  cases k with
  | zero => rfl
  | succ k =>
    have hw := stand_whole hA
    have w0 := wr_do (chs := chs) hA.1 k (by omega) 0 (by omega)
    have s0 := wr_stand (cs := cs) (chs := chs) (k := k + 1) (i := 0) (by omega)
    simp only [Nat.add_zero, if_true] at w0 s0
    rcases other_stand cs with ⟨a, b⟩ | ⟨a, b⟩ <;> simp only [a, b, Nat.zero_mul, Nat.one_mul, Nat.zero_add, Nat.reduceAdd, Nat.reduceSub] at w0 s0 hw ⊢
    · unfold stand
      rw [if_pos ⟨s0.trans hw, fun z => by rw [w0] at z; exact absurd z.1 (by decide)⟩]
    · unfold stand
      rw [if_neg (fun z => by rw [w0] at z; exact absurd z.1 (by decide))]
theorem bank_wr_cut {cs : List Int} {chs : List (Nat × Int)} (hA : Any cs) {k : Nat} (hk : k < 11) : bank (wr cs (stepsOf cs chs) k) = bank cs := by
  have hl : (wr cs (stepsOf cs chs) k).length = 20 := by rw [wr_len]; exact hA.1
  refine ext_cl (by rw [bank_len hl, bank_len hA.1]) fun i hi => ?_
  rw [bank_len hl] at hi
  rw [cl_bank hi, cl_bank hi, stand_wr_cut hA hk, wr_stand hi]
end Fk
namespace Fk
open PySem PySem.Spec PyProof.Rows L2
local macro_rules | `(tactic| wtm_at "ln") => `(tactic| first
  | omega
  | (simp only [List.length_cons, List.length_nil, List.length_map, List.length_append, List.length_replicate, List.length_take, List.length_drop, List.length_set]; omega)
  | (with_unfolding_all exact (by decide)))
local macro_rules | `(tactic| wtm_at "ar") => `(tactic| first
  | ((with_reducible show CMulW _ _); (refine' mulS ?_ ?_ <;> omega))
  | ((with_reducible show CDivW _ _); (refine' divS ?_ ?_ <;> omega))
  | ((with_reducible show CPow _ _); exact ⟨by decide, by decide, by decide⟩)
  | (show (0 : Int) < _; omega)
  | (with_unfolding_all exact (by decide)))
local macro_rules | `(tactic| wtm_at "at") => `(tactic| first
  | assumption
  | (refine' cl_atE ?e80 ?h80; (case' e80 => first | exact rfl | assumption); (case' h80 => wtm_at "ln"))
  | exact rfl)
local macro_rules | `(tactic| wtm_at "fr") => `(tactic| first
  | assumption
  | ((with_reducible refine' Mx.free0 ?m99 ?h99); (case' h99 => assumption); (case' m99 => wtm_at "mo")))
local macro_rules | `(tactic| wtm_at "hp") => `(tactic| first
  | assumption
  | ((with_reducible refine' Mx.get0 ?m1 ?h1); (case' m1 => assumption); (case' h1 => wtm_at "hp"))
  | ((with_reducible refine' Mx.get ?m2 ?n2 ?h2); (case' m2 => assumption); (case' n2 => wtm_at "nin"); (case' h2 => wtm_at "hp")))
local macro_rules | `(tactic| wtm_at "sl") => `(tactic| first
  | assumption
  | ((with_reducible refine' Mx.sqL0 ?m96 ?h96); (case' h96 => assumption); (case' m96 => wtm_at "mo"))
  | (refine' SqL.of ?h3; (case' h3 => wtm_at "hp"))
  | ((with_reducible refine' Mx.sqL0 ?m4 ?h4); (case' m4 => assumption); (case' h4 => wtm_at "sl"))
  | ((with_reducible refine' Mx.sqL ?m5 ?n5 ?h5); (case' m5 => assumption); (case' n5 => wtm_at "nin"); (case' h5 => wtm_at "sl")))
local macro_rules | `(tactic| wtm_at "st") => `(tactic| first
  | assumption
  | ((with_reducible refine' Mx.sqT0 ?m97 ?h97); (case' h97 => assumption); (case' m97 => wtm_at "mo"))
  | (refine' SqT.of ?h6; (case' h6 => wtm_at "hp"))
  | ((with_reducible refine' Mx.sqT0 ?m7 ?h7); (case' m7 => assumption); (case' h7 => wtm_at "st"))
  | ((with_reducible refine' Mx.sqT ?m8 ?n8 ?h8); (case' m8 => assumption); (case' n8 => wtm_at "nin"); (case' h8 => wtm_at "st")))
local macro_rules | `(tactic| wtm_at "mx") => `(tactic| first
  | assumption
  | exact Mx.refl
  | ((with_reducible refine' Mx.of0 ?h9); (case' h9 => assumption))
  | ((with_reducible refine' Mx.trans ?h10 ?m10); (case' m10 => first | assumption | ((with_reducible refine' Mx.of0 ?q10); (case' q10 => assumption))); (case' h10 => wtm_at "mx")))
local macro_rules | `(tactic| wtm_at "mo") => `(tactic| first
  | wtm_at "mx"
  | ((with_reducible refine' Mx.own ?m90 ?f90 ?k90); (case' k90 => assumption); (case' f90 => wtm_at "fr"); (case' m90 => wtm_at "mo"))
  | ((with_reducible refine' Mx.trans ?h91 ?m91); (case' m91 => first | assumption | ((with_reducible refine' Mx.of0 ?q91); (case' q91 => assumption))); (case' h91 => wtm_at "mo")))
local macro_rules | `(tactic| wtm_at "ne") => `(tactic| first
  | assumption
  | exact Ne.symm (by assumption)
  | ((with_reducible refine' ne_of_none ?x94 ?y94); (case' y94 => assumption); (case' x94 => wtm_at "hp"))
  | ((with_reducible refine' Ne.symm (ne_of_none ?x95 ?y95)); (case' y95 => assumption); (case' x95 => wtm_at "hp")))
local macro_rules | `(tactic| wtm_at "nin") => `(tactic| first
  | assumption
  | exact List.not_mem_nil
  | ((with_reducible refine' List.not_mem_cons_of_ne_of_not_mem ?h98 ?t98); (case' h98 => wtm_at "ne"); (case' t98 => wtm_at "nin")))
local macro_rules | `(tactic| wtm_at "g1") => `(tactic| first
  | ((with_reducible refine' g_var ?h11 ?k11); (case' h11 => exact rfl))
  | with_reducible refine' g_c ?_
  | with_reducible refine' g_op ?_
  | with_reducible refine' g_I0 ?_
  | ((with_reducible refine' g_I ?c12 ?k12); (case' c12 => wtm_at "ar"))
  | with_reducible refine' g_cons ?_
  | with_reducible refine' g_nil ?_
  | with_reducible refine' g_seq ?_
  | with_reducible refine' g_asg ?_
  | with_reducible refine' g_name ?_
  | with_reducible refine' g_ret ?_
  | with_reducible refine' g_if ?_
  | with_reducible refine' g_test ?_
  | with_reducible refine' g_tB ?_
  | with_reducible refine' g_bl ?_
  | ((with_reducible refine' g_eq ?h13 ?k13); (case' h13 => exact rfl))
  | ((with_reducible refine' g_ne ?h14 ?k14); (case' h14 => exact rfl))
  | with_reducible refine' g_CB ?_
  | with_reducible refine' g_call ?_
  | with_reducible refine' g_drop ?_
  | with_reducible refine' g_next ?_
  | with_reducible refine' g_not ?_
  | with_reducible refine' g_and ?_
  | with_reducible refine' g_or ?_
  | with_reducible refine' g_un ?_
  | with_reducible refine' g_U ?_
  | with_reducible refine' g_tup ?_
  | with_reducible refine' g_lst ?_
  | ((with_reducible refine' g_kNew ?h15 ?k15); (case' h15 => wtm_at "ln"); (case' k15 => intro _ _ _ _ _))
  | ((with_reducible refine' g_ixL ?h16 ?a16 ?k16); (case' h16 => wtm_at "sl"); (case' a16 => wtm_at "at"))
  | ((with_reducible refine' g_ixT ?h17 ?a17 ?k17); (case' h17 => wtm_at "st"); (case' a17 => wtm_at "at"))
  | with_reducible refine' g_slice ?_
  | with_reducible refine' g_part ?_
  | with_reducible refine' g_kPart ?_
  | with_reducible refine' g_noPart ?_
  | ((with_reducible refine' g_slL ?h18 ?k18); (case' h18 => wtm_at "sl"); (case' k18 => intro _ _ _ _ _))
  | ((with_reducible refine' g_cat ?h119 ?h219 ?l19 ?k19); (case' h119 => wtm_at "hp"); (case' h219 => wtm_at "hp"); (case' l19 => wtm_at "ln"); (case' k19 => intro _ _ _ _ _))
  | ((with_reducible refine' g_rep ?h120 ?h220 ?h320 ?l20 ?k20); (case' h120 => wtm_at "hp"); (case' h220 => wtm_at "ln"); (case' h320 => wtm_at "ln"); (case' l20 => wtm_at "ln"); (case' k20 => intro _ _ _ _ _))
  | ((with_reducible refine' g_append ?h21 ?l21 ?k21); (case' h21 => wtm_at "hp"); (case' l21 => wtm_at "ln"); (case' k21 => intro _ _ _))
  | ((with_reducible refine' g_kBM ?h22 ?k22); (case' h22 => wtm_at "sl"))
  | ((with_reducible refine' g_kBM0 ?h23 ?k23); (case' h23 => wtm_at "sl"))
  | ((with_reducible refine' g_kL ?h24 ?k24); (case' h24 => wtm_at "sl"))
  | ((with_reducible refine' g_kR1 ?h125 ?h225 ?k25); (case' h125 => wtm_at "ln"); (case' h225 => wtm_at "ln"))
  | ((with_reducible refine' g_kR2 ?h126 ?h226 ?h326 ?h426 ?k26); (case' h126 => wtm_at "ln"); (case' h226 => wtm_at "ln"); (case' h326 => wtm_at "ln"); (case' h426 => wtm_at "ln"))
  | ((with_reducible refine' g_lenL ?h27 ?k27); (case' h27 => wtm_at "sl"))
  | ((with_reducible refine' g_lenT ?h28 ?k28); (case' h28 => wtm_at "st"))
  | ((with_reducible refine' g_listL ?h29 ?k29); (case' h29 => wtm_at "sl"); (case' k29 => intro _ _ _ _ _))
  | ((with_reducible refine' g_tupleL ?h30 ?k30); (case' h30 => wtm_at "sl"); (case' k30 => intro _ _ _ _ _))
  | with_reducible refine' g_max ?_
  | with_reducible refine' g_min ?_
  | with_reducible refine' g_intB ?_
  | with_reducible refine' g_fld ?_
  | with_reducible refine' g_put ?_
  | with_reducible refine' g_dget ?_
  | with_reducible refine' g_isN ?_
  | with_reducible refine' g_notN ?_
  | with_reducible refine' g_ifE ?_
  | with_reducible refine' g_andV ?_
  | with_reducible refine' g_orV ?_
  | with_reducible refine' g_notV ?_
  | with_reducible refine' g_kIf ?_
  | with_reducible refine' g_chain ?_
  | with_reducible refine' g_kCh ?_
  | with_reducible refine' g_sub ?_
  | ((with_reducible refine' g_setI ?h92 ?e92 ?j92 ?k92); (case' h92 => wtm_at "hp"); (case' e92 => first | exact rfl | assumption); (case' j92 => wtm_at "ln"); (case' k92 => intro _ _ _))
  | ((with_reducible refine' g_setL ?h89 ?i89 ?k89); (case' h89 => wtm_at "hp"); (case' i89 => exact ixE rfl (by wtm_at "ln")); (case' k89 => intro _ _ _))
  | ((with_reducible refine' g_gtup ?h93 ?e93 ?k93); (case' h93 => wtm_at "st"); (case' e93 => exact rfl))
  | with_reducible refine' g_gcons ?_
  | with_reducible refine' g_gnil ?_
  | with_reducible refine' g_par ?_
  | with_reducible refine' g_kPar ?_
  | with_reducible refine' g_meth ?_
  | with_reducible refine' g_bm ?_
  | with_reducible refine' g_bm0 ?_
  | with_reducible refine' g_raise ?_
  | with_reducible refine' g_for ?_
  | with_reducible refine' g_iR1 ?_
  | with_reducible refine' g_iR2 ?_
  | with_reducible refine' g_iL ?_
  | with_reducible refine' g_lc ?_
  | with_reducible refine' g_retN ?_
  | with_reducible refine' g_no (b := false) rfl ?_
  | with_reducible refine' g_yes (b := true) rfl ?_)
local macro_rules | `(tactic| wtm_at "go") => `(tactic| repeat (wtm_at "g1"))
local macro_rules | `(tactic| wtm_at "gs") => `(tactic| repeat ((fail_if_success (with_reducible refine' g_ifE ?_)); wtm_at "g1"))
local macro_rules | `(tactic| wtm_at "gi") => `(tactic| repeat ((fail_if_success (with_reducible refine' g_if ?_)); wtm_at "g1"))
local macro_rules | `(tactic| wtm_at "gr") => `(tactic| repeat ((fail_if_success (with_reducible refine' g_ret ?_)); wtm_at "g1"))
local macro_rules | `(tactic| wtm_at "gq") => `(tactic| repeat ((fail_if_success (with_reducible refine' g_asg ?_)); wtm_at "g1"))
/-! ### deeds -/
inductive Rf where
  | down | up | amount | code | short | bank | number | meter
  deriving DecidableEq
/-- the numbers of the bank that stands are of some size -/
def Sm (μ : Mt) : Prop := μ.num.natAbs < 2 ^ 200 ∧ μ.key.natAbs < 2 ^ 200 ∧ ∀ i, (bk μ i).natAbs < 2 ^ 200
def stampChs (μ : Mt) (a : Int) : List (Nat × Int) := [(2, bk μ 2 + a), (3, bk μ 3 - a), (8, bk μ 8 + 1), (9, a)]
def stampM (μ : Mt) (a : Int) (cut : Option Nat) : PyData × Mt :=
  match writeM μ (stampChs μ a) cut with
  | (none, μ1) => (.none, μ1)
  | (some left, μ1) => if (printM μ1 left).1 = true then (.int (bk μ 8 + 1), (printM μ1 left).2) else (.none, (printM μ1 left).2)
def stampR (μ : Mt) (a : Int) : Option Rf := if μ.up = false then some .down else if amt a = false then some .amount else if bk μ 3 < a then some .short else none
def topChs (μ : Mt) (z : Cd) : List (Nat × Int) := [(3, bk μ 3 + z.a), (4, bk μ 4 + z.a), (5, z.c)]
def topM (μ : Mt) (z : Cd) (cut : Option Nat) : PyData × Mt :=
  match writeM μ (topChs μ z) cut with
  | (none, μ1) => (.none, μ1)
  | (some _, μ1) => (.int z.a, μ1)
def topR (μ : Mt) (z : Cd) : Option Rf := if μ.up = false then some .down else if good μ.key z μ.num (bk μ 5 + 1) 1 = false then some .code else none
def backChs (μ : Mt) (a : Int) : List (Nat × Int) := [(3, bk μ 3 - a), (4, bk μ 4 - a), (6, bk μ 6 + 1), (7, a)]
def lastB (μ : Mt) : PyData := if 0 < bk μ 6 then cdD (mkCd μ.key μ.num (bk μ 6) (bk μ 7) 2) else .none
def backM (μ : Mt) (a : Int) (cut : Option Nat) : PyData × Mt :=
  match writeM μ (backChs μ a) cut with
  | (none, μ1) => (.none, μ1)
  | (some _, μ1) => (lastB μ1, μ1)
def upM (μ : Mt) (cut : Option Nat) : PyData × Mt := if (printM μ cut).1 = true then (.bool true, { (printM μ cut).2 with up := true }) else (.none, (printM μ cut).2)
theorem stampChs_ok (μ : Mt) (a : Int) : Chs (stampChs μ a) := by intro c hc; simp [stampChs] at hc; rcases hc with rfl | rfl | rfl | rfl <;> simp
theorem topChs_ok (μ : Mt) (z : Cd) : Chs (topChs μ z) := by intro c hc; simp [topChs] at hc; rcases hc with rfl | rfl | rfl <;> simp
theorem backChs_ok (μ : Mt) (a : Int) : Chs (backChs μ a) := by intro c hc; simp [backChs] at hc; rcases hc with rfl | rfl | rfl | rfl <;> simp
theorem writeM_any {μ : Mt} {chs : List (Nat × Int)} {cut : Option Nat} (h : Any μ.cells) : Any (writeM μ chs cut).2.cells := by
  unfold writeM
  split
  · split <;> exact any_wr h
  · exact any_wr h
theorem writeM_st {μ : Mt} {chs : List (Nat × Int)} {cut : Option Nat} : (writeM μ chs cut).2.stamps = μ.stamps := by
  unfold writeM
  split
  · split <;> rfl
  · rfl
theorem writeM_cases (μ : Mt) (chs : List (Nat × Int)) (cut : Option Nat) : (∃ k, cut = some k ∧ k < 11 ∧ writeM μ chs cut = (none, { μ with cells := wr μ.cells (stepsOf μ.cells chs) k, up := false })) ∨
    ((∀ k, cut = some k → 11 ≤ k) ∧ writeM μ chs cut = (some (cut.map fun k => k - 11), { μ with cells := wr μ.cells (stepsOf μ.cells chs) 11 })) := by
  cases cut with
  | none => exact .inr ⟨(fun _ h => nomatch h), rfl⟩
  | some k =>
    by_cases h : k < 11
    · exact .inl ⟨k, rfl, h, by simp only [writeM, if_pos h]⟩
    · exact .inr ⟨fun _ e => by cases e; omega, by simp only [writeM, if_neg h, Option.map_some]⟩
theorem bk_wr {μ : Mt} {chs : List (Nat × Int)} (hA : Any μ.cells) (hc : Chs chs) (i : Nat) : bk { μ with cells := wr μ.cells (stepsOf μ.cells chs) 11 } i = cl (news μ.cells chs) i := by
  unfold bk
  rw [bank_wr hA hc]
theorem scal_m1 : scal (V.int (-1)) (V.int (-1)) = true := rfl
section
variable {P : Program} {w : World} {K : PySem.W.Frag} {mg : Str → Option Value} {base : Heap}
def Rf.at (T : Tx K mg) : Rf → Addr
  | .down => T.E_Down
  | .up => T.E_Up
  | .amount => T.E_BadAmount
  | .code => T.E_BadCode
  | .short => T.E_Short
  | .bank => T.E_NoBank
  | .number => T.E_BadNumber
  | .meter => T.E_NoMeter
local macro_rules | `(tactic| wtm_at "g1") => `(tactic| first
  | ((with_reducible refine' g_fOwn (by assumption) ?h201 ?k201); (case' h201 => wtm_at "hp"))
  | ((with_reducible refine' g_fKey (by assumption) ?h202 ?k202); (case' h202 => wtm_at "hp"))
  | ((with_reducible refine' g_fMem (by assumption) ?h203 ?k203); (case' h203 => wtm_at "hp"))
  | ((with_reducible refine' g_fPri (by assumption) ?h204 ?k204); (case' h204 => wtm_at "hp"))
  | ((with_reducible refine' g_fAwa (by assumption) ?h205 ?k205); (case' h205 => wtm_at "hp"))
  | ((with_reducible refine' g_pAwa (by assumption) ?h206 ?k206); (case' h206 => wtm_at "hp"); (case' k206 => intro _ _ _))
  | ((with_reducible refine' g_kMeth ?h207 ?l207 ?k207); (case' h207 => wtm_at "hp"); (case' l207 => exact rfl)))

theorem g_neL {c : Option (Option Nat)} {H : Hp} {Q : VK} (k : Q (.bl (!decide (c = none))) H) : rNe (leftV c) (.int (-1)) H Q := by
  refine g_ne (scal_left c) ?_
  have : decide (leftV c = V.int (-1)) = decide (c = none) := by
    cases c with
    | none => rfl
    | some c => cases c with
      | none => rfl
      | some k =>
        simp [leftV, cutO]
  rw [this]
  exact k
/-- last_back -/
def spLastBack (T : Tx K mg) : Sp := fun vs H Q _ => ∃ (p pm pp : Addr) (μ : Mt), vs = [.ref p] ∧ MetAt K T.C_Meter H p pm pp μ ∧ Any μ.cells ∧ Bd μ.key ∧ Bd μ.num ∧ Bd (bk μ 6) ∧ Bd (bk μ 7) ∧ ∀ v H', Mx [] H H' → Dp K H' v (lastB μ) → Q v H'
theorem mt_Meter_last_back (T : Tx K mg) : Me P w K mg base 3 T.C_Meter "last_back" (spLastBack T) [] := by
  refine T.m_Meter_last_back.me T.cls_Meter sc_Meter_last_back (fun vs H Q E h => ?_) (fun cdv A outer s H vs Q E hr h => ?_)
  · obtain ⟨_, _, _, _, rfl, _⟩ := h
    rfl
  · obtain ⟨p, pm, pp, μ, rfl, ⟨⟨dx, ob⟩, me, pr, ne⟩, hA, b1, b2, b3, b4, q⟩ := h
    have hl := hA.1
    have hb := bank_len hl
    refine ⟨_, (pss_cons (ps_set (i := 1) sc_Meter_last_back.nd rfl (Or.inl rfl) (q_call (c_bank_of T) hr (by decide) rfl (passes_call (takes_of rfl rfl rfl rfl) (fun _ _ _ _ h => h)) (pa_cons (fldK K (pv 0) rfl) pa_nil)))
      (pss_one (ps_ret (pe_ifExp (pt_cmpR op_gt (pe_ix (ixL K) (pv 1) (q_const T.g_BACKS rfl) (fun _ _ => rfl)) pe_int (by first | exact nomark _ | rfl)) (q_call (c_code_of T) hr (by decide) rfl (passes_call (takes_of rfl rfl rfl rfl) (fun _ _ _ _ h => h)) (pa_cons (fldK K (pv 0) rfl) (pa_cons (fldK K (pv 0) rfl) (pa_cons (pe_ix (ixL K) (pv 1) (q_const T.g_BACKS rfl) (fun _ _ => rfl)) (pa_cons (pe_ix (ixL K) (pv 1) (q_const T.g_GIVEN rfl) (fun _ _ => rfl)) (pa_cons (q_const T.g_BACK rfl) pa_nil)))))) pe_non)))), ?_⟩
    wtm_at "go"
    refine ⟨pm, μ.cells, rfl, by wtm_at "sl", by omega, fun _ b H1 n1 m1 e1 => ?_, fun z => absurd hA z⟩
    wtm_at "go"
    refine g_ite (fun e => ?_) (fun e => ?_)
    · have el : lastB μ = cdD (mkCd μ.key μ.num (bk μ 6) (bk μ 7) 2) := if_pos (by simpa [bk] using e)
      rw [el] at q
      wtm_at "go"
      refine ⟨_, _, _, _, _, rfl, b1, b2, b3, b4, (by omega), fun t H2 n2 m2 e2 => ?_⟩
      refine q _ _ (by wtm_at "mo") ?_
      exact .tup (.of e2) (.cons (.int _) (.cons (.int _) (.cons (.int _) (.cons (.int _) .nil))))
    · have el : lastB μ = .none := if_neg (by simpa [bk] using e)
      rw [el] at q
      wtm_at "go"
      exact q _ _ (by wtm_at "mo") .non
/-- stamp -/
def spStamp (T : Tx K mg) : Sp := fun vs H Q E => ∃ (p pm pp : Addr) (μ : Mt) (a : Int) (cut : Option Nat), vs = [.ref p, .int a, cutO cut] ∧ MetAt K T.C_Meter H p pm pp μ ∧ Any μ.cells ∧ μ.stamps.length < 1000 ∧
  (∀ r, stampR μ a = some r → ∀ H', Mx [] H H' → E (.ref (r.at T)) none H') ∧ (stampR μ a = none → ∀ v H', Mx [p, pm, pp] H H' → MetAt K T.C_Meter H' p pm pp (stampM μ a cut).2 → Dp K H' v (stampM μ a cut).1 → Q v H')
theorem ok_stamp (T : Tx K mg) : FnOk P w K mg base (L2.CX P w) 5 T.m_Meter_stamp.a T.m_Meter_stamp.d ["self", "amount", "cut"] (spStamp T) := by
  refine T.m_Meter_stamp.ok sc_Meter_stamp (fun vs H Q E h => ?_) (fun cdv A outer s H vs Q E hr h => ?_)
  · obtain ⟨_, _, _, _, _, _, rfl, _⟩ := h
    rfl
  · obtain ⟨p, pm, pp, μ, a, cut, rfl, M, hA, hst, q1, q2⟩ := h
    have M0 := M
    obtain ⟨⟨dx, ob⟩, me, ⟨ws, pr, dp⟩, ne⟩ := M
    have hl := hA.1
    have hb := bank_len hl
    have npm : p ≠ pm := M0.p_pm
    have npp : p ≠ pp := M0.p_pp
    refine ⟨_, (pss_cons (ps_expr (q_meth0 (mt_Meter_need_up T) hr (by decide) (pv 0) (passes_call (takes_of rfl rfl rfl rfl) (fun _ _ _ _ h => h))))
      (pss_cons (ps_expr (q_call (c_need_amount T) hr (by decide) rfl (passes_call (takes_of rfl rfl rfl rfl) (fun _ _ _ _ h => h)) (pa_cons (pv 1) pa_nil)))
      (pss_cons (ps_set (i := 3) sc_Meter_stamp.nd rfl (Or.inl rfl) (q_call (c_bank_of T) hr (by decide) rfl (passes_call (takes_of rfl rfl rfl rfl) (fun _ _ _ _ h => h)) (pa_cons (fldK K (pv 0) rfl) pa_nil)))
      (pss_cons (ps_if (pt_cmpR op_lt (pe_ix (ixL K) (pv 3) (q_const T.g_FALLING rfl) (fun _ _ => rfl)) (pv 1) (by first | exact nomark _ | rfl)) (pss_one (q_raise rfl (takes_of rfl rfl rfl rfl) T.x_Short rfl)) pss_nil)
      (pss_cons (ps_set (i := 4) sc_Meter_stamp.nd rfl (Or.inl rfl) (pe_op op_add (pe_ix (ixL K) (pv 3) (q_const T.g_STAMP rfl) (fun _ _ => rfl)) pe_int))
      (pss_cons (ps_set (i := 5) sc_Meter_stamp.nd rfl (Or.inl rfl) (pe_lst (pa_cons (pe_tup (pa_cons (q_const T.g_RISING rfl) (pa_cons (pe_op op_add (pe_ix (ixL K) (pv 3) (q_const T.g_RISING rfl) (fun _ _ => rfl)) (pv 1)) pa_nil))) (pa_cons (pe_tup (pa_cons (q_const T.g_FALLING rfl) (pa_cons (pe_op op_sub (pe_ix (ixL K) (pv 3) (q_const T.g_FALLING rfl) (fun _ _ => rfl)) (pv 1)) pa_nil))) (pa_cons (pe_tup (pa_cons (q_const T.g_STAMP rfl) (pa_cons (pv 4) pa_nil))) pa_nil)))))
      (pss_cons (ps_set (i := 6) sc_Meter_stamp.nd rfl (Or.inl rfl) (q_meth (mt_Meter_write T) hr (by decide) (pv 0) (passes_call (takes_of rfl rfl rfl rfl) (fun _ _ _ _ h => h)) (pa_cons (pe_op op_cat (pv 5) (pe_lst (pa_cons (pe_tup (pa_cons (q_const T.g_AMOUNT rfl) (pa_cons (pv 1) pa_nil))) pa_nil))) (pa_cons (pv 2) pa_nil))))
      (pss_one (ps_ret (pe_ifExp (PW.pt (pw_and (pt_cmpR op_ne (pv 6) (pe_un un_neg pe_int) (by first | exact nomark _ | rfl)) (pw_and1 (pt_val (q_meth (mt_Meter_print_owed T) hr (by decide) (pv 0) (passes_call (takes_of rfl rfl rfl rfl) (fun _ _ _ _ h => h)) (pa_cons (pv 6) pa_nil)))))) (pv 4) pe_non)))))))))), ?_⟩
    wtm_at "go"
    refine ⟨p, pm, pp, μ, rfl, M0, fun eu => ?_, fun eu => q1 .down (if_pos eu) _ Mx.refl⟩
    wtm_at "go"
    refine ⟨a, rfl, fun ea => ?_, fun ea => q1 .amount (by simp [stampR, eu, ea]) _ Mx.refl⟩
    wtm_at "go"
    refine ⟨pm, μ.cells, rfl, by wtm_at "sl", by omega, fun _ b H1 n1 m1 e1 => ?_, fun z => absurd hA z⟩
    wtm_at "go"
    refine g_ite (fun e => ?_) (fun e => ?_)
    · wtm_at "go"
      exact q1 .short (by simp [stampR, eu, ea]; simpa [bk] using e) _ (by wtm_at "mo")
    · have e0 : ¬ bk μ 3 < a := by simpa [bk] using e
      have q3 := q2 (by simp [stampR, eu, ea]; omega)
      wtm_at "go"
      refine ⟨p, pm, pp, _, μ, _, stampChs μ a, cut, rfl, M0.mx0 (by wtm_at "mo"), hA, by wtm_at "sl", ?_, fun c hc => (stampChs_ok μ a c hc).2, fun H9 m9 M9 => ?_⟩
      · show DpAll K _ [V.ref _, V.ref _, V.ref _, V.ref _] _
        exact .cons (.mkSt (s := (2, bk μ 2 + a)) (by wtm_at "st")) (.cons (.mkSt (s := (3, bk μ 3 - a)) (by wtm_at "st")) (.cons (.mkSt (s := (8, bk μ 8 + 1)) (by wtm_at "st")) (.cons (.mkSt (s := (9, a)) (by wtm_at "st")) .nil)))
      · wtm_at "go"
        refine g_neL ?_
        have n9 : Mx [p, pm, pp] H H9 := Mx.trans (by wtm_at "mo") (m9.mono (by simp))
        have hA9 : Any (writeM μ (stampChs μ a) cut).2.cells := writeM_any hA
        have hs9 : (writeM μ (stampChs μ a) cut).2.stamps.length < 1000 := by rw [writeM_st]; exact hst
        rcases writeM_cases μ (stampChs μ a) cut with ⟨k, ek, hk, ew⟩ | ⟨hk, ew⟩
        · have es : stampM μ a cut = (.none, (writeM μ (stampChs μ a) cut).2) := by simp only [stampM, ew]
          rw [es] at q3
          wtm_at "go"
          refine g_no (by simp [ew]) ?_
          wtm_at "go"
          exact q3 _ _ n9 M9 .non
        · have es : stampM μ a cut = if (printM (writeM μ (stampChs μ a) cut).2 (cut.map fun k => k - 11)).1 = true then (.int (bk μ 8 + 1), (printM (writeM μ (stampChs μ a) cut).2 (cut.map fun k => k - 11)).2) else (.none, (printM (writeM μ (stampChs μ a) cut).2 (cut.map fun k => k - 11)).2) := by simp only [stampM, ew]
          rw [es] at q3
          have el : leftV (writeM μ (stampChs μ a) cut).1 = cutO (cut.map fun k => k - 11) := by rw [ew]; rfl
          wtm_at "go"
          refine g_yes (by simp [ew]) ?_
          rw [el]
          obtain ⟨dx9, ob9⟩ := M9.ob
          wtm_at "go"
          refine ⟨p, pm, pp, _, cut.map fun k => k - 11, rfl, M9, hA9, hs9, fun H10 m10 M10 => ?_⟩
          have n10 : Mx [p, pm, pp] H H10 := n9.trans (m10.mono (by simp))
          wtm_at "go"
          refine g_ite (fun ep => ?_) (fun ep => ?_)
          · rw [if_pos ep] at q3
            wtm_at "go"
            exact q3 _ _ n10 M10 (.int _)
          · rw [if_neg (by simp [ep])] at q3
            wtm_at "go"
            exact q3 _ _ n10 M10 .non
theorem mt_Meter_stamp (T : Tx K mg) : Me P w K mg base 5 T.C_Meter "stamp" (spStamp T) [] := T.m_Meter_stamp.me T.cls_Meter (ok_stamp T)
theorem mt_Meter_stamp_d (T : Tx K mg) : Me P w K mg base 5 T.C_Meter "stamp" (spStamp T) [.non] := T.m_Meter_stamp.me1 T.cls_Meter (ok_stamp T)
/-- top_up -/
def spTopUp (T : Tx K mg) : Sp := fun vs H Q E => ∃ (p pm pp t : Addr) (μ : Mt) (z : Cd) (cut : Option Nat), vs = [.ref p, .ref t, cutO cut] ∧ MetAt K T.C_Meter H p pm pp μ ∧ Any μ.cells ∧ Sm μ ∧ H t = some (.tup z.vs) ∧
  (∀ r, topR μ z = some r → ∀ H', Mx [] H H' → E (.ref (r.at T)) none H') ∧ (topR μ z = none → ∀ v H', Mx [p, pm, pp] H H' → MetAt K T.C_Meter H' p pm pp (topM μ z cut).2 → Dp K H' v (topM μ z cut).1 → Q v H')
theorem ok_top_up (T : Tx K mg) : FnOk P w K mg base (L2.CX P w) 5 T.m_Meter_top_up.a T.m_Meter_top_up.d ["self", "code", "cut"] (spTopUp T) := by
  refine T.m_Meter_top_up.ok sc_Meter_top_up (fun vs H Q E h => ?_) (fun cdv A outer s H vs Q E hr h => ?_)
  · obtain ⟨_, _, _, _, _, _, _, rfl, _⟩ := h
    rfl
  · obtain ⟨p, pm, pp, t, μ, z, cut, rfl, M, hA, ⟨hs1, hs2, hs3⟩, ht, q1, q2⟩ := h
    have M0 := M
    obtain ⟨⟨dx, ob⟩, me, ⟨ws, pr, dp⟩, ne⟩ := M
    have hl := hA.1
    have hb := bank_len hl
    have h5 := hs3 5
    have npm : p ≠ pm := M0.p_pm
    have npp : p ≠ pp := M0.p_pp
    refine ⟨_, (pss_cons (ps_expr (q_meth0 (mt_Meter_need_up T) hr (by decide) (pv 0) (passes_call (takes_of rfl rfl rfl rfl) (fun _ _ _ _ h => h))))
      (pss_cons (ps_set (i := 3) sc_Meter_top_up.nd rfl (Or.inl rfl) (q_call (c_bank_of T) hr (by decide) rfl (passes_call (takes_of rfl rfl rfl rfl) (fun _ _ _ _ h => h)) (pa_cons (fldK K (pv 0) rfl) pa_nil)))
      (pss_cons (ps_if (pt_not (pt_val (q_call (c_is_good T) hr (by decide) rfl (passes_call (takes_of rfl rfl rfl rfl) (fun _ _ _ _ h => h)) (pa_cons (fldK K (pv 0) rfl) (pa_cons (pv 1) (pa_cons (fldK K (pv 0) rfl) (pa_cons (pe_op op_add (pe_ix (ixL K) (pv 3) (q_const T.g_TOPS rfl) (fun _ _ => rfl)) pe_int) (pa_cons (q_const T.g_TOP rfl) pa_nil)))))))) (pss_one (q_raise rfl (takes_of rfl rfl rfl rfl) T.x_BadCode rfl)) pss_nil)
      (pss_cons (ps_set (i := 4) sc_Meter_top_up.nd rfl (Or.inl rfl) (pe_lst (pa_cons (pe_tup (pa_cons (q_const T.g_FALLING rfl) (pa_cons (pe_op op_add (pe_ix (ixL K) (pv 3) (q_const T.g_FALLING rfl) (fun _ _ => rfl)) (pe_ix (ixT K) (pv 1) pe_int (fun _ _ => rfl))) pa_nil))) (pa_cons (pe_tup (pa_cons (q_const T.g_CREDIT rfl) (pa_cons (pe_op op_add (pe_ix (ixL K) (pv 3) (q_const T.g_CREDIT rfl) (fun _ _ => rfl)) (pe_ix (ixT K) (pv 1) pe_int (fun _ _ => rfl))) pa_nil))) (pa_cons (pe_tup (pa_cons (q_const T.g_TOPS rfl) (pa_cons (pe_ix (ixT K) (pv 1) pe_int (fun _ _ => rfl)) pa_nil))) pa_nil)))))
      (pss_one (ps_ret (pe_ifExp (pt_cmpR op_ne (q_meth (mt_Meter_write T) hr (by decide) (pv 0) (passes_call (takes_of rfl rfl rfl rfl) (fun _ _ _ _ h => h)) (pa_cons (pv 4) (pa_cons (pv 2) pa_nil))) (pe_un un_neg pe_int) (by first | exact nomark _ | rfl)) (pe_ix (ixT K) (pv 1) pe_int (fun _ _ => rfl)) pe_non))))))), ?_⟩
    wtm_at "go"
    refine ⟨p, pm, pp, μ, rfl, M0, fun eu => ?_, fun eu => q1 .down (if_pos eu) _ Mx.refl⟩
    wtm_at "go"
    refine ⟨pm, μ.cells, rfl, by wtm_at "sl", by omega, fun _ b H1 n1 m1 e1 => ?_, fun z => absurd hA z⟩
    wtm_at "go"
    refine ⟨μ.key, t, z, μ.num, bk μ 5 + 1, 1, rfl, m1.get0 ht, by omega, by omega, by omega, by omega, ?_⟩
    have ht1 : SqT K H1 t z.vs := .of (m1.get0 ht)
    obtain ⟨zm, zc, za, zs⟩ := z
    simp only [Cd.vs] at ht ht1
    wtm_at "go"
    refine g_ite (fun e => ?_) (fun e => ?_)
    · wtm_at "go"
      exact q1 .code (by simp [topR, eu]; simpa using e) _ (by wtm_at "mo")
    · have q3 := q2 (by simp [topR, eu]; simpa using e)
      wtm_at "go"
      refine ⟨p, pm, pp, _, μ, _, topChs μ ⟨zm, zc, za, zs⟩, cut, rfl, M0.mx0 (by wtm_at "mo"), hA, by wtm_at "sl", ?_, fun c hc => (topChs_ok μ _ c hc).2, fun H9 m9 M9 => ?_⟩
      · exact .cons (.mkSt (s := (3, bk μ 3 + za)) (by wtm_at "st")) (.cons (.mkSt (s := (4, bk μ 4 + za)) (by wtm_at "st")) (.cons (.mkSt (s := (5, zc)) (by wtm_at "st")) .nil))
      · wtm_at "go"
        refine g_neL ?_
        have n9 : Mx [p, pm, pp] H H9 := Mx.trans (by wtm_at "mo") (m9.mono (by simp))
        have ht9 : SqT K H9 t [.int zm, .int zc, .int za, .int zs] := .of (m9.get (by simp; exact ⟨(ne_of ob ht fun z => nomatch z).symm, (ne_of me ht fun z => nomatch z).symm⟩) (by wtm_at "hp"))
        rcases writeM_cases μ (topChs μ ⟨zm, zc, za, zs⟩) cut with ⟨k, ek, hk, ew⟩ | ⟨hk, ew⟩
        · have es : topM μ ⟨zm, zc, za, zs⟩ cut = (.none, (writeM μ (topChs μ ⟨zm, zc, za, zs⟩) cut).2) := by simp only [topM, ew]
          rw [es] at q3
          wtm_at "go"
          refine g_no (by simp [ew]) ?_
          wtm_at "go"
          exact q3 _ _ n9 M9 .non
        · have es : topM μ ⟨zm, zc, za, zs⟩ cut = (.int za, (writeM μ (topChs μ ⟨zm, zc, za, zs⟩) cut).2) := by simp only [topM, ew]
          rw [es] at q3
          wtm_at "go"
          refine g_yes (by simp [ew]) ?_
          wtm_at "go"
          exact q3 _ _ n9 M9 (.int _)
theorem mt_Meter_top_up (T : Tx K mg) : Me P w K mg base 5 T.C_Meter "top_up" (spTopUp T) [] := T.m_Meter_top_up.me T.cls_Meter (ok_top_up T)
theorem mt_Meter_top_up_d (T : Tx K mg) : Me P w K mg base 5 T.C_Meter "top_up" (spTopUp T) [.non] := T.m_Meter_top_up.me1 T.cls_Meter (ok_top_up T)
/-- give_back -/
def spGiveBack (T : Tx K mg) : Sp := fun vs H Q E => ∃ (p pm pp : Addr) (μ : Mt) (a : Int) (cut : Option Nat), vs = [.ref p, .int a, cutO cut] ∧ MetAt K T.C_Meter H p pm pp μ ∧ Any μ.cells ∧ Sm μ ∧
  (∀ r, stampR μ a = some r → ∀ H', Mx [] H H' → E (.ref (r.at T)) none H') ∧ (stampR μ a = none → ∀ v H', Mx [p, pm, pp] H H' → MetAt K T.C_Meter H' p pm pp (backM μ a cut).2 → Dp K H' v (backM μ a cut).1 → Q v H')
theorem ok_give_back (T : Tx K mg) : FnOk P w K mg base (L2.CX P w) 5 T.m_Meter_give_back.a T.m_Meter_give_back.d ["self", "amount", "cut"] (spGiveBack T) := by
  refine T.m_Meter_give_back.ok sc_Meter_give_back (fun vs H Q E h => ?_) (fun cdv A outer s H vs Q E hr h => ?_)
  · obtain ⟨_, _, _, _, _, _, rfl, _⟩ := h
    rfl
  · obtain ⟨p, pm, pp, μ, a, cut, rfl, M, hA, ⟨hs1, hs2, hs3⟩, q1, q2⟩ := h
    have M0 := M
    obtain ⟨⟨dx, ob⟩, me, ⟨ws, pr, dp⟩, ne⟩ := M
    have hl := hA.1
    have hb := bank_len hl
    have npm : p ≠ pm := M0.p_pm
    have npp : p ≠ pp := M0.p_pp
    refine ⟨_, (pss_cons (ps_expr (q_meth0 (mt_Meter_need_up T) hr (by decide) (pv 0) (passes_call (takes_of rfl rfl rfl rfl) (fun _ _ _ _ h => h))))
      (pss_cons (ps_expr (q_call (c_need_amount T) hr (by decide) rfl (passes_call (takes_of rfl rfl rfl rfl) (fun _ _ _ _ h => h)) (pa_cons (pv 1) pa_nil)))
      (pss_cons (ps_set (i := 3) sc_Meter_give_back.nd rfl (Or.inl rfl) (q_call (c_bank_of T) hr (by decide) rfl (passes_call (takes_of rfl rfl rfl rfl) (fun _ _ _ _ h => h)) (pa_cons (fldK K (pv 0) rfl) pa_nil)))
      (pss_cons (ps_if (pt_cmpR op_lt (pe_ix (ixL K) (pv 3) (q_const T.g_FALLING rfl) (fun _ _ => rfl)) (pv 1) (by first | exact nomark _ | rfl)) (pss_one (q_raise rfl (takes_of rfl rfl rfl rfl) T.x_Short rfl)) pss_nil)
      (pss_cons (ps_set (i := 4) sc_Meter_give_back.nd rfl (Or.inl rfl) (pe_lst (pa_cons (pe_tup (pa_cons (q_const T.g_FALLING rfl) (pa_cons (pe_op op_sub (pe_ix (ixL K) (pv 3) (q_const T.g_FALLING rfl) (fun _ _ => rfl)) (pv 1)) pa_nil))) (pa_cons (pe_tup (pa_cons (q_const T.g_CREDIT rfl) (pa_cons (pe_op op_sub (pe_ix (ixL K) (pv 3) (q_const T.g_CREDIT rfl) (fun _ _ => rfl)) (pv 1)) pa_nil))) pa_nil))))
      (pss_cons (ps_set (i := 4) sc_Meter_give_back.nd rfl (Or.inl rfl) (pe_op op_cat (pv 4) (pe_lst (pa_cons (pe_tup (pa_cons (q_const T.g_BACKS rfl) (pa_cons (pe_op op_add (pe_ix (ixL K) (pv 3) (q_const T.g_BACKS rfl) (fun _ _ => rfl)) pe_int) pa_nil))) (pa_cons (pe_tup (pa_cons (q_const T.g_GIVEN rfl) (pa_cons (pv 1) pa_nil))) pa_nil)))))
      (pss_one (ps_ret (pe_ifExp (pt_cmpR op_ne (q_meth (mt_Meter_write T) hr (by decide) (pv 0) (passes_call (takes_of rfl rfl rfl rfl) (fun _ _ _ _ h => h)) (pa_cons (pv 4) (pa_cons (pv 2) pa_nil))) (pe_un un_neg pe_int) (by first | exact nomark _ | rfl)) (q_meth0 (mt_Meter_last_back T) hr (by decide) (pv 0) (passes_call (takes_of rfl rfl rfl rfl) (fun _ _ _ _ h => h))) pe_non))))))))), ?_⟩
    wtm_at "go"
    refine ⟨p, pm, pp, μ, rfl, M0, fun eu => ?_, fun eu => q1 .down (if_pos eu) _ Mx.refl⟩
    wtm_at "go"
    refine ⟨a, rfl, fun ea => ?_, fun ea => q1 .amount (by simp [stampR, eu, ea]) _ Mx.refl⟩
    wtm_at "go"
    refine ⟨pm, μ.cells, rfl, by wtm_at "sl", by omega, fun _ b H1 n1 m1 e1 => ?_, fun z => absurd hA z⟩
    wtm_at "go"
    refine g_ite (fun e => ?_) (fun e => ?_)
    · wtm_at "go"
      exact q1 .short (by simp [stampR, eu, ea]; simpa [bk] using e) _ (by wtm_at "mo")
    · have e0 : ¬ bk μ 3 < a := by simpa [bk] using e
      have q3 := q2 (by simp [stampR, eu, ea]; omega)
      wtm_at "go"
      refine ⟨p, pm, pp, _, μ, _, backChs μ a, cut, rfl, M0.mx0 (by wtm_at "mo"), hA, by wtm_at "sl", ?_, fun c hc => (backChs_ok μ a c hc).2, fun H9 m9 M9 => ?_⟩
      · show DpAll K _ [V.ref _, V.ref _, V.ref _, V.ref _] _
        exact .cons (.mkSt (s := (3, bk μ 3 - a)) (by wtm_at "st")) (.cons (.mkSt (s := (4, bk μ 4 - a)) (by wtm_at "st")) (.cons (.mkSt (s := (6, bk μ 6 + 1)) (by wtm_at "st")) (.cons (.mkSt (s := (7, a)) (by wtm_at "st")) .nil)))
      · wtm_at "go"
        refine g_neL ?_
        have n9 : Mx [p, pm, pp] H H9 := Mx.trans (by wtm_at "mo") (m9.mono (by simp))
        have hA9 : Any (writeM μ (backChs μ a) cut).2.cells := writeM_any hA
        rcases writeM_cases μ (backChs μ a) cut with ⟨k, ek, hk, ew⟩ | ⟨hk, ew⟩
        · have es : backM μ a cut = (.none, (writeM μ (backChs μ a) cut).2) := by simp only [backM, ew]
          rw [es] at q3
          wtm_at "go"
          refine g_no (by simp [ew]) ?_
          wtm_at "go"
          exact q3 _ _ n9 M9 .non
        · have es : backM μ a cut = (lastB (writeM μ (backChs μ a) cut).2, (writeM μ (backChs μ a) cut).2) := by simp only [backM, ew]
          rw [es] at q3
          obtain ⟨dx9, ob9⟩ := M9.ob
          have eb : ∀ i, bk (writeM μ (backChs μ a) cut).2 i = cl (news μ.cells (backChs μ a)) i := fun i => by rw [ew]; exact bk_wr hA (backChs_ok μ a) i
          have e6 : bk (writeM μ (backChs μ a) cut).2 6 = bk μ 6 + 1 := by
            rw [eb]
            simp only [news, backChs, List.foldl]
            rw [cl_set_ne (by omega), cl_set_eq (by simp [bank_len hl])]
          have e7 : bk (writeM μ (backChs μ a) cut).2 7 = a := by
            rw [eb]
            simp only [news, backChs, List.foldl]
            rw [cl_set_eq (by simp [bank_len hl])]
          have ek : (writeM μ (backChs μ a) cut).2.key = μ.key ∧ (writeM μ (backChs μ a) cut).2.num = μ.num := by rw [ew]; exact ⟨rfl, rfl⟩
          have h6 := hs3 6
          have ha2 := amt_iff.mp ea
          wtm_at "go"
          refine g_yes (by simp [ew]) ?_
          wtm_at "go"
          refine ⟨p, pm, pp, _, rfl, M9, hA9, by rw [ek.1]; omega, by rw [ek.2]; omega, by rw [e6]; omega, by rw [e7]; omega, fun v H10 m10 d10 => ?_⟩
          exact q3 _ _ (n9.trans m10.of0) (M9.mx0 m10) d10
theorem mt_Meter_give_back (T : Tx K mg) : Me P w K mg base 5 T.C_Meter "give_back" (spGiveBack T) [] := T.m_Meter_give_back.me T.cls_Meter (ok_give_back T)
theorem mt_Meter_give_back_d (T : Tx K mg) : Me P w K mg base 5 T.C_Meter "give_back" (spGiveBack T) [.non] := T.m_Meter_give_back.me1 T.cls_Meter (ok_give_back T)
/-- come_up -/
def spComeUp (T : Tx K mg) : Sp := fun vs H Q E => ∃ (p pm pp : Addr) (μ : Mt) (cut : Option Nat), vs = [.ref p, cutO cut] ∧ MetAt K T.C_Meter H p pm pp μ ∧ Any μ.cells ∧ μ.stamps.length < 1000 ∧
  (μ.up = true → E (.ref T.E_Up) none H) ∧ (μ.up = false → ∀ v H', Mx [p, pm, pp] H H' → MetAt K T.C_Meter H' p pm pp (upM μ cut).2 → Dp K H' v (upM μ cut).1 → Q v H')
theorem ok_come_up (T : Tx K mg) : FnOk P w K mg base (L2.CX P w) 5 T.m_Meter_come_up.a T.m_Meter_come_up.d ["self", "cut"] (spComeUp T) := by
  refine T.m_Meter_come_up.ok sc_Meter_come_up (fun vs H Q E h => ?_) (fun cdv A outer s H vs Q E hr h => ?_)
  · obtain ⟨_, _, _, _, _, rfl, _⟩ := h
    rfl
  · obtain ⟨p, pm, pp, μ, cut, rfl, M0, hA, hst, q1, q2⟩ := h
    obtain ⟨dx, ob⟩ := M0.ob
    have npm : p ≠ pm := M0.p_pm
    have npp : p ≠ pp := M0.p_pp
    refine ⟨_, (pss_cons (ps_if (pt_val (fldK K (pv 0) rfl)) (pss_one (q_raise rfl (takes_of rfl rfl rfl rfl) T.x_Up rfl)) pss_nil)
      (pss_cons (ps_if (pt_not (pt_val (q_meth (mt_Meter_print_owed T) hr (by decide) (pv 0) (passes_call (takes_of rfl rfl rfl rfl) (fun _ _ _ _ h => h)) (pa_cons (pv 1) pa_nil)))) (pss_one (ps_ret pe_non)) pss_nil)
      (pss_cons (psFld K (pv 0) pe_bl rfl)
      (pss_one (ps_ret pe_bl))))), ?_⟩
    wtm_at "go"
    refine g_ite (fun e => ?_) (fun e => ?_)
    · wtm_at "go"
      exact q1 e
    · have q3 := q2 e
      wtm_at "go"
      refine ⟨p, pm, pp, μ, cut, rfl, M0, hA, hst, fun H1 m1 M1 => ?_⟩
      wtm_at "go"
      refine g_ite (fun ep => ?_) (fun ep => ?_)
      · have ep2 : (printM μ cut).1 = false := by simpa using ep
        have es : upM μ cut = (.none, (printM μ cut).2) := by simp [upM, ep2]
        rw [es] at q3
        wtm_at "go"
        exact q3 _ _ (m1.mono (by simp)) M1 .non
      · have ep2 : (printM μ cut).1 = true := by simpa using ep
        have es : upM μ cut = (.bool true, { (printM μ cut).2 with up := true }) := by simp [upM, ep2]
        rw [es] at q3
        obtain ⟨⟨dx1, ob1⟩, me1, ⟨ws1, pr1, dp1⟩, ne1⟩ := M1
        wtm_at "go"
        rename_i H2 m2 e2
        refine q3 _ _ ((m1.mono (by simp)).trans (m2.mono (by simp))) ⟨⟨dx1, e2⟩, m2 _ _ me1 (by simpa using npm.symm), ⟨ws1, m2 _ _ pr1 (by simpa using npp.symm), m2.sts (noTupI ob1) dp1⟩, ne1⟩ (.bl _)
theorem mt_Meter_come_up (T : Tx K mg) : Me P w K mg base 5 T.C_Meter "come_up" (spComeUp T) [] := T.m_Meter_come_up.me T.cls_Meter (ok_come_up T)
theorem mt_Meter_come_up_d (T : Tx K mg) : Me P w K mg base 5 T.C_Meter "come_up" (spComeUp T) [.non] := T.m_Meter_come_up.me1 T.cls_Meter (ok_come_up T)
end
end Fk
namespace Fk
open PySem PySem.Spec PyProof.Rows L2
local macro_rules | `(tactic| wtm_at "ln") => `(tactic| first
  | omega
  | (simp only [List.length_cons, List.length_nil, List.length_map, List.length_append, List.length_replicate, List.length_take, List.length_drop, List.length_set]; omega)
  | (with_unfolding_all exact (by decide)))
local macro_rules | `(tactic| wtm_at "ar") => `(tactic| first
  | ((with_reducible show CMulW _ _); (refine' mulS ?_ ?_ <;> omega))
  | ((with_reducible show CDivW _ _); (refine' divS ?_ ?_ <;> omega))
  | ((with_reducible show CPow _ _); exact ⟨by decide, by decide, by decide⟩)
  | (show (0 : Int) < _; omega)
  | (with_unfolding_all exact (by decide)))
local macro_rules | `(tactic| wtm_at "at") => `(tactic| first
  | assumption
  | (refine' cl_atE ?e80 ?h80; (case' e80 => first | exact rfl | assumption); (case' h80 => wtm_at "ln"))
  | exact rfl)
local macro_rules | `(tactic| wtm_at "fr") => `(tactic| first
  | assumption
  | ((with_reducible refine' Mx.free0 ?m99 ?h99); (case' h99 => assumption); (case' m99 => wtm_at "mo")))
local macro_rules | `(tactic| wtm_at "hp") => `(tactic| first
  | assumption
  | ((with_reducible refine' Mx.get0 ?m1 ?h1); (case' m1 => assumption); (case' h1 => wtm_at "hp"))
  | ((with_reducible refine' Mx.get ?m2 ?n2 ?h2); (case' m2 => assumption); (case' n2 => wtm_at "nin"); (case' h2 => wtm_at "hp")))
local macro_rules | `(tactic| wtm_at "sl") => `(tactic| first
  | assumption
  | ((with_reducible refine' Mx.sqL0 ?m96 ?h96); (case' h96 => assumption); (case' m96 => wtm_at "mo"))
  | (refine' SqL.of ?h3; (case' h3 => wtm_at "hp"))
  | ((with_reducible refine' Mx.sqL0 ?m4 ?h4); (case' m4 => assumption); (case' h4 => wtm_at "sl"))
  | ((with_reducible refine' Mx.sqL ?m5 ?n5 ?h5); (case' m5 => assumption); (case' n5 => wtm_at "nin"); (case' h5 => wtm_at "sl")))
local macro_rules | `(tactic| wtm_at "st") => `(tactic| first
  | assumption
  | ((with_reducible refine' Mx.sqT0 ?m97 ?h97); (case' h97 => assumption); (case' m97 => wtm_at "mo"))
  | (refine' SqT.of ?h6; (case' h6 => wtm_at "hp"))
  | ((with_reducible refine' Mx.sqT0 ?m7 ?h7); (case' m7 => assumption); (case' h7 => wtm_at "st"))
  | ((with_reducible refine' Mx.sqT ?m8 ?n8 ?h8); (case' m8 => assumption); (case' n8 => wtm_at "nin"); (case' h8 => wtm_at "st")))
local macro_rules | `(tactic| wtm_at "mx") => `(tactic| first
  | assumption
  | exact Mx.refl
  | ((with_reducible refine' Mx.of0 ?h9); (case' h9 => assumption))
  | ((with_reducible refine' Mx.trans ?h10 ?m10); (case' m10 => first | assumption | ((with_reducible refine' Mx.of0 ?q10); (case' q10 => assumption))); (case' h10 => wtm_at "mx")))
local macro_rules | `(tactic| wtm_at "mo") => `(tactic| first
  | wtm_at "mx"
  | ((with_reducible refine' Mx.own ?m90 ?f90 ?k90); (case' k90 => assumption); (case' f90 => wtm_at "fr"); (case' m90 => wtm_at "mo"))
  | ((with_reducible refine' Mx.trans ?h91 ?m91); (case' m91 => first | assumption | ((with_reducible refine' Mx.of0 ?q91); (case' q91 => assumption))); (case' h91 => wtm_at "mo")))
local macro_rules | `(tactic| wtm_at "ne") => `(tactic| first
  | assumption
  | exact Ne.symm (by assumption)
  | ((with_reducible refine' ne_of_none ?x94 ?y94); (case' y94 => assumption); (case' x94 => wtm_at "hp"))
  | ((with_reducible refine' Ne.symm (ne_of_none ?x95 ?y95)); (case' y95 => assumption); (case' x95 => wtm_at "hp")))
local macro_rules | `(tactic| wtm_at "nin") => `(tactic| first
  | assumption
  | exact List.not_mem_nil
  | ((with_reducible refine' List.not_mem_cons_of_ne_of_not_mem ?h98 ?t98); (case' h98 => wtm_at "ne"); (case' t98 => wtm_at "nin")))
local macro_rules | `(tactic| wtm_at "g1") => `(tactic| first
  | ((with_reducible refine' g_var ?h11 ?k11); (case' h11 => exact rfl))
  | with_reducible refine' g_c ?_
  | with_reducible refine' g_op ?_
  | with_reducible refine' g_I0 ?_
  | ((with_reducible refine' g_I ?c12 ?k12); (case' c12 => wtm_at "ar"))
  | with_reducible refine' g_cons ?_
  | with_reducible refine' g_nil ?_
  | with_reducible refine' g_seq ?_
  | with_reducible refine' g_asg ?_
  | with_reducible refine' g_name ?_
  | with_reducible refine' g_ret ?_
  | with_reducible refine' g_if ?_
  | with_reducible refine' g_test ?_
  | with_reducible refine' g_tB ?_
  | with_reducible refine' g_bl ?_
  | ((with_reducible refine' g_eq ?h13 ?k13); (case' h13 => exact rfl))
  | ((with_reducible refine' g_ne ?h14 ?k14); (case' h14 => exact rfl))
  | with_reducible refine' g_CB ?_
  | with_reducible refine' g_call ?_
  | with_reducible refine' g_drop ?_
  | with_reducible refine' g_next ?_
  | with_reducible refine' g_not ?_
  | with_reducible refine' g_and ?_
  | with_reducible refine' g_or ?_
  | with_reducible refine' g_un ?_
  | with_reducible refine' g_U ?_
  | with_reducible refine' g_tup ?_
  | with_reducible refine' g_lst ?_
  | ((with_reducible refine' g_kNew ?h15 ?k15); (case' h15 => wtm_at "ln"); (case' k15 => intro _ _ _ _ _))
  | ((with_reducible refine' g_ixL ?h16 ?a16 ?k16); (case' h16 => wtm_at "sl"); (case' a16 => wtm_at "at"))
  | ((with_reducible refine' g_ixT ?h17 ?a17 ?k17); (case' h17 => wtm_at "st"); (case' a17 => wtm_at "at"))
  | with_reducible refine' g_slice ?_
  | with_reducible refine' g_part ?_
  | with_reducible refine' g_kPart ?_
  | with_reducible refine' g_noPart ?_
  | ((with_reducible refine' g_slL ?h18 ?k18); (case' h18 => wtm_at "sl"); (case' k18 => intro _ _ _ _ _))
  | ((with_reducible refine' g_cat ?h119 ?h219 ?l19 ?k19); (case' h119 => wtm_at "hp"); (case' h219 => wtm_at "hp"); (case' l19 => wtm_at "ln"); (case' k19 => intro _ _ _ _ _))
  | ((with_reducible refine' g_rep ?h120 ?h220 ?h320 ?l20 ?k20); (case' h120 => wtm_at "hp"); (case' h220 => wtm_at "ln"); (case' h320 => wtm_at "ln"); (case' l20 => wtm_at "ln"); (case' k20 => intro _ _ _ _ _))
  | ((with_reducible refine' g_append ?h21 ?l21 ?k21); (case' h21 => wtm_at "hp"); (case' l21 => wtm_at "ln"); (case' k21 => intro _ _ _))
  | ((with_reducible refine' g_kBM ?h22 ?k22); (case' h22 => wtm_at "sl"))
  | ((with_reducible refine' g_kBM0 ?h23 ?k23); (case' h23 => wtm_at "sl"))
  | ((with_reducible refine' g_kL ?h24 ?k24); (case' h24 => wtm_at "sl"))
  | ((with_reducible refine' g_kR1 ?h125 ?h225 ?k25); (case' h125 => wtm_at "ln"); (case' h225 => wtm_at "ln"))
  | ((with_reducible refine' g_kR2 ?h126 ?h226 ?h326 ?h426 ?k26); (case' h126 => wtm_at "ln"); (case' h226 => wtm_at "ln"); (case' h326 => wtm_at "ln"); (case' h426 => wtm_at "ln"))
  | ((with_reducible refine' g_lenL ?h27 ?k27); (case' h27 => wtm_at "sl"))
  | ((with_reducible refine' g_lenT ?h28 ?k28); (case' h28 => wtm_at "st"))
  | ((with_reducible refine' g_listL ?h29 ?k29); (case' h29 => wtm_at "sl"); (case' k29 => intro _ _ _ _ _))
  | ((with_reducible refine' g_tupleL ?h30 ?k30); (case' h30 => wtm_at "sl"); (case' k30 => intro _ _ _ _ _))
  | with_reducible refine' g_max ?_
  | with_reducible refine' g_min ?_
  | with_reducible refine' g_intB ?_
  | with_reducible refine' g_fld ?_
  | with_reducible refine' g_put ?_
  | with_reducible refine' g_dget ?_
  | with_reducible refine' g_isN ?_
  | with_reducible refine' g_notN ?_
  | with_reducible refine' g_ifE ?_
  | with_reducible refine' g_andV ?_
  | with_reducible refine' g_orV ?_
  | with_reducible refine' g_notV ?_
  | with_reducible refine' g_kIf ?_
  | with_reducible refine' g_chain ?_
  | with_reducible refine' g_kCh ?_
  | with_reducible refine' g_sub ?_
  | ((with_reducible refine' g_setI ?h92 ?e92 ?j92 ?k92); (case' h92 => wtm_at "hp"); (case' e92 => first | exact rfl | assumption); (case' j92 => wtm_at "ln"); (case' k92 => intro _ _ _))
  | ((with_reducible refine' g_setL ?h89 ?i89 ?k89); (case' h89 => wtm_at "hp"); (case' i89 => exact ixE rfl (by wtm_at "ln")); (case' k89 => intro _ _ _))
  | ((with_reducible refine' g_gtup ?h93 ?e93 ?k93); (case' h93 => wtm_at "st"); (case' e93 => exact rfl))
  | with_reducible refine' g_gcons ?_
  | with_reducible refine' g_gnil ?_
  | with_reducible refine' g_par ?_
  | with_reducible refine' g_kPar ?_
  | with_reducible refine' g_meth ?_
  | with_reducible refine' g_bm ?_
  | with_reducible refine' g_bm0 ?_
  | with_reducible refine' g_raise ?_
  | with_reducible refine' g_for ?_
  | with_reducible refine' g_iR1 ?_
  | with_reducible refine' g_iR2 ?_
  | with_reducible refine' g_iL ?_
  | with_reducible refine' g_lc ?_
  | with_reducible refine' g_retN ?_
  | with_reducible refine' g_no (b := false) rfl ?_
  | with_reducible refine' g_yes (b := true) rfl ?_)
local macro_rules | `(tactic| wtm_at "go") => `(tactic| repeat (wtm_at "g1"))
local macro_rules | `(tactic| wtm_at "gs") => `(tactic| repeat ((fail_if_success (with_reducible refine' g_ifE ?_)); wtm_at "g1"))
local macro_rules | `(tactic| wtm_at "gi") => `(tactic| repeat ((fail_if_success (with_reducible refine' g_if ?_)); wtm_at "g1"))
local macro_rules | `(tactic| wtm_at "gr") => `(tactic| repeat ((fail_if_success (with_reducible refine' g_ret ?_)); wtm_at "g1"))
local macro_rules | `(tactic| wtm_at "gq") => `(tactic| repeat ((fail_if_success (with_reducible refine' g_asg ?_)); wtm_at "g1"))
/-! ### the law's own: drawing, codes, what a meter is -/
/-- where drawing stands: the list at r; H0: the heap at the law's entry, which stays -/
structure StAt (K : PySem.W.Frag) (H0 H : Hp) (r : Addr) : Prop where
  ex : ∃ (a : Addr) (ns : List Int) (i m l : Int), H r = some (.lst [.ref a, .int i, .int m, .int l]) ∧ SqL K H0 a (ns.map V.int) ∧ ns.length ≤ 63 ∧ 0 ≤ i ∧ 0 ≤ m ∧ m < 2147483647 ∧ 0 ≤ l
  fr : H0 r = none
  mx : Mx [] H0 H
theorem mx_fresh {S : List Addr} {H0 H H' : Hp} (m0 : Mx [] H0 H) (m : Mx S H H') (f : ∀ x ∈ S, H0 x = none) : Mx [] H0 H' := fun a o e _ =>
  m a o (m0.get0 e) fun z => by have := f a z; rw [e] at this; cases this
theorem StAt.mv {K : PySem.W.Frag} {S : List Addr} {H0 H H' : Hp} {r : Addr} (s : StAt K H0 H r) (m : Mx S H H') (f : ∀ x ∈ S, H0 x = none) (n : r ∉ S) : StAt K H0 H' r := by
  obtain ⟨⟨a, ns, i, mm, l, h, q⟩, fr, mx⟩ := s
  exact ⟨⟨a, ns, i, mm, l, m _ _ h n, q⟩, fr, mx_fresh mx m f⟩
theorem StAt.mx0 {K : PySem.W.Frag} {H0 H H' : Hp} {r : Addr} (s : StAt K H0 H r) (m : Mx [] H H') : StAt K H0 H' r := s.mv m (fun _ h => by simp at h) (by simp)
/-- the dict that tells what a meter is -/
def lmKvs (μ : Mt) (qc qs : Addr) : List (Key × V) := [(Sum.inr "number", .int μ.num), (Sum.inr "key", .int μ.key), (Sum.inr "cells", .ref qc), (Sum.inr "stamps", .ref qs), (Sum.inr "up", .bl μ.up)]
structure LmAt (K : PySem.W.Frag) (H : Hp) (q qc qs : Addr) (μ : Mt) : Prop where
  ob : H q = some (.dK (lmKvs μ qc qs))
  ce : H qc = some (.lst (μ.cells.map V.int))
  st : ∃ vs, H qs = some (.lst vs) ∧ DpAll K H vs (μ.stamps.map stD)
  ne : qc ≠ qs
theorem LmAt.mx {K : PySem.W.Frag} {S : List Addr} {H H' : Hp} {q qc qs : Addr} {μ : Mt} (M : LmAt K H q qc qs μ) (m : Mx S H H') (n : NoTup H S) (h1 : q ∉ S) (h2 : qc ∉ S) (h3 : qs ∉ S) : LmAt K H' q qc qs μ := by
  obtain ⟨ob, ce, ⟨vs, st, dp⟩, ne⟩ := M
  exact ⟨m _ _ ob h1, m _ _ ce h2, ⟨vs, m _ _ st h3, m.sts n dp⟩, ne⟩
theorem LmAt.mx0 {K : PySem.W.Frag} {H H' : Hp} {q qc qs : Addr} {μ : Mt} (M : LmAt K H q qc qs μ) (m : Mx [] H H') : LmAt K H' q qc qs μ := M.mx m noTup0 (by simp) (by simp) (by simp)
theorem LmAt.q_qc {K : PySem.W.Frag} {H : Hp} {q qc qs : Addr} {μ : Mt} (M : LmAt K H q qc qs μ) : q ≠ qc := ne_of M.ob M.ce fun z => nomatch z
theorem LmAt.q_qs {K : PySem.W.Frag} {H : Hp} {q qc qs : Addr} {μ : Mt} (M : LmAt K H q qc qs μ) : q ≠ qs := by
  obtain ⟨vs, st, _⟩ := M.st
  exact ne_of M.ob st fun z => nomatch z
theorem noTupD {H : Hp} {l : Addr} {xs : List (Key × V)} (h : H l = some (.dK xs)) : NoTup H [l] := fun x hx u e => by
  simp at hx; subst hx; rw [h] at e; cases e; exact ⟨(fun _ z => nomatch z), (fun _ _ z => nomatch z)⟩
theorem NoTup.cons {H : Hp} {x : Addr} {S : List Addr} (h : NoTup H [x]) (t : NoTup H S) : NoTup H (x :: S) := fun y hy u e => by
  rcases List.mem_cons.mp hy with rfl | hy
  · exact h _ (by simp) u e
  · exact t y hy u e
section
variable {P : Program} {w : World} {K : PySem.W.Frag} {mg : Str → Option Value} {base : Heap}
section
variable {D : Ends} {σ : L2.St} {H : Hp} {Q : VK} {x v y : V}
def kDPut (v : V) (x : V) (N : Hp → Prop) : VK := fun y H3 => ∃ a H4, x = .ref a ∧ DPut H3 a y v H4 ∧ N H4
theorem g_dput {td ty tv : TE} (k : tv σ H fun v H1 => td σ H1 fun x H2 => ty σ H2 (kDPut v x fun H4 => D.nx σ H4)) : sDPut td ty tv D σ H := k
theorem g_kDPutS {a : Addr} {z : Str} {kvs kvs' : List (Key × V)} {N : Hp → Prop} (h : H a = some (.dK kvs)) (e : putK kvs (Sum.inr z) v = kvs') (hl : kvs.length ≤ 100) (k : ∀ H', Mx [a] H H' → H' a = some (.dK kvs') → N H') : kDPut v (.ref a) N (.str z) H :=
  ⟨a, _, rfl, DPut.k (k := Sum.inr z) h (lineL (by omega)), k _ (.put (by simp)) (by rw [upd_same, e])⟩
theorem g_dNum {q qc qs : Addr} {μ : Mt} (h : H q = some (.dK (lmKvs μ qc qs))) (k : Q (.int μ.num) H) : kDGet (.ref q) Q (.str "number") H := g_kDGetS h rfl k
theorem g_dKey {q qc qs : Addr} {μ : Mt} (h : H q = some (.dK (lmKvs μ qc qs))) (k : Q (.int μ.key) H) : kDGet (.ref q) Q (.str "key") H := g_kDGetS h rfl k
theorem g_dCe {q qc qs : Addr} {μ : Mt} (h : H q = some (.dK (lmKvs μ qc qs))) (k : Q (.ref qc) H) : kDGet (.ref q) Q (.str "cells") H := g_kDGetS h rfl k
theorem g_dSt {q qc qs : Addr} {μ : Mt} (h : H q = some (.dK (lmKvs μ qc qs))) (k : Q (.ref qs) H) : kDGet (.ref q) Q (.str "stamps") H := g_kDGetS h rfl k
theorem g_dUp {q qc qs : Addr} {μ : Mt} (h : H q = some (.dK (lmKvs μ qc qs))) (k : Q (.bl μ.up) H) : kDGet (.ref q) Q (.str "up") H := g_kDGetS h rfl k
/-- a dict displayed -/
def vkey : V → Key
  | .str s => Sum.inr s
  | .int i => Sum.inl i
  | _ => Sum.inl 0
def kDisp (p : Addr) (Q : VK) : List (V × V) → Hp → Prop := fun ps H2 => H2 p = some (.dK []) ∧ ∃ kvs : List (Key × V), ps = kvs.map (fun kv => (kV kv.1, kv.2)) ∧ kvs.length ≤ 15 ∧ Q (.ref p) (upd H2 p (.dK (mergeK [] kvs)))
theorem g_disp {trs : List (TE × TE)} (k : ∀ p H', H p = none → Mx [] H H' → H' p = some (.dK []) → tPairs trs σ H' (kDisp p Q)) : tDisp trs σ H Q := fun p hp => k p _ hp (.new hp) upd_same
theorem g_pnil {QP : List (V × V) → Hp → Prop} (k : QP [] H) : tPairs [] σ H QP := k
theorem g_pcons {tk tv : TE} {r : List (TE × TE)} {QP : List (V × V) → Hp → Prop} (k : tk σ H fun x H1 => tv σ H1 fun y H2 => tPairs r σ H2 fun ps H3 => QP ((x, y) :: ps) H3) : tPairs ((tk, tv) :: r) σ H QP := k
theorem g_kDisp {p : Addr} {ps : List (V × V)} {kvs : List (Key × V)} (h : H p = some (.dK [])) (e : (ps.map fun z => (vkey z.1, z.2)).map (fun kv => (kV kv.1, kv.2)) = ps) (f : mergeK [] (ps.map fun z => (vkey z.1, z.2)) = kvs) (l : ps.length ≤ 15)
    (k : ∀ H', Mx [p] H H' → H' p = some (.dK kvs) → Q (.ref p) H') : kDisp p Q ps H :=
  ⟨h, ps.map fun z => (vkey z.1, z.2), e.symm, by rw [List.length_map]; exact l, k _ (.put (by simp)) (by rw [upd_same, f])⟩
theorem g_pUp {a qc qs : Addr} {μ : Mt} {b : Bool} {N : Hp → Prop} (h : H a = some (.dK (lmKvs μ qc qs))) (k : ∀ H', Mx [a] H H' → H' a = some (.dK (lmKvs { μ with up := b } qc qs)) → N H') : kDPut (.bl b) (.ref a) N (.str "up") H :=
  g_kDPutS h rfl (by show 5 ≤ 100; decide) k
theorem g_pSt {a qc qs l : Addr} {μ : Mt} {N : Hp → Prop} (h : H a = some (.dK (lmKvs μ qc qs))) (k : ∀ H', Mx [a] H H' → H' a = some (.dK (lmKvs μ qc l)) → N H') : kDPut (.ref l) (.ref a) N (.str "stamps") H :=
  g_kDPutS h rfl (by show 5 ≤ 100; decide) k
theorem g_pCe {a qc qs l : Addr} {μ : Mt} {N : Hp → Prop} (h : H a = some (.dK (lmKvs μ qc qs))) (k : ∀ H', Mx [a] H H' → H' a = some (.dK (lmKvs μ l qs)) → N H') : kDPut (.ref l) (.ref a) N (.str "cells") H :=
  g_kDPutS h rfl (by show 5 ≤ 100; decide) k
end
local macro_rules | `(tactic| wtm_at "g1") => `(tactic| first
  | ((with_reducible refine' g_fOwn (by assumption) ?h201 ?k201); (case' h201 => wtm_at "hp"))
  | ((with_reducible refine' g_fKey (by assumption) ?h202 ?k202); (case' h202 => wtm_at "hp"))
  | ((with_reducible refine' g_fMem (by assumption) ?h203 ?k203); (case' h203 => wtm_at "hp"))
  | ((with_reducible refine' g_fPri (by assumption) ?h204 ?k204); (case' h204 => wtm_at "hp"))
  | ((with_reducible refine' g_fAwa (by assumption) ?h205 ?k205); (case' h205 => wtm_at "hp"))
  | ((with_reducible refine' g_pAwa (by assumption) ?h206 ?k206); (case' h206 => wtm_at "hp"); (case' k206 => intro _ _ _))
  | ((with_reducible refine' g_kMeth ?h207 ?l207 ?k207); (case' h207 => wtm_at "hp"); (case' l207 => exact rfl)))

local macro_rules | `(tactic| wtm_at "g1") => `(tactic| first
  | ((with_reducible refine' g_dNum ?h311 ?k311); (case' h311 => wtm_at "hp"))
  | ((with_reducible refine' g_dKey ?h312 ?k312); (case' h312 => wtm_at "hp"))
  | ((with_reducible refine' g_dCe ?h313 ?k313); (case' h313 => wtm_at "hp"))
  | ((with_reducible refine' g_dSt ?h314 ?k314); (case' h314 => wtm_at "hp"))
  | ((with_reducible refine' g_dUp ?h315 ?k315); (case' h315 => wtm_at "hp"))
  | ((with_reducible refine' g_kDGetS ?h301 ?l301 ?k301); (case' h301 => wtm_at "hp"); (case' l301 => exact rfl))
  | (with_reducible refine' g_dput ?_)
  | (with_reducible refine' g_iK ?_)
  | ((with_reducible refine' g_disp ?k305); (case' k305 => intro _ _ _ _ _))
  | (with_reducible refine' g_pcons ?_)
  | (with_reducible refine' g_pnil ?_)
  | ((with_reducible refine' g_kDisp ?h306 ?e306 ?f306 ?l306 ?k306); (case' h306 => wtm_at "hp"); (case' e306 => exact rfl); (case' f306 => exact rfl); (case' l306 => wtm_at "ln"); (case' k306 => intro _ _ _))
  | ((with_reducible refine' g_pUp ?h302 ?k302); (case' h302 => wtm_at "hp"); (case' k302 => intro _ _ _))
  | ((with_reducible refine' g_pSt ?h303 ?k303); (case' h303 => wtm_at "hp"); (case' k303 => intro _ _ _))
  | ((with_reducible refine' g_pCe ?h304 ?k304); (case' h304 => wtm_at "hp"); (case' k304 => intro _ _ _)))

def spStart : Sp := fun vs H Q _ => ∃ (a : Addr) (ns : List Int), vs = [.ref a] ∧ SqL K H a (ns.map V.int) ∧ ns.length ≤ 63 ∧ ∀ r H', H r = none → Mx [] H H' → StAt K H H' r → Q (.ref r) H'
theorem c__law_start (T : Tx K mg) : Cl P w K mg base 1 "_law_start" (spStart (K := K)) [] := by
  refine T.f__law_start.cl sc__law_start (fun vs H Q E h => ?_) (fun cdv A outer s H vs Q E hr h => ?_)
  · obtain ⟨_, _, rfl, _⟩ := h
    rfl
  · obtain ⟨a, ns, rfl, hS, hl, q⟩ := h
    refine ⟨_, (pss_cons (ps_set (i := 1) sc__law_start.nd rfl (Or.inl rfl) pe_int)
      (pss_cons (ps_for (passes_of rfl) rfl (piL K (pv 0)) (pg_name (i := 2) sc__law_start.nd rfl (Or.inl rfl))
      (pss_one (ps_set (i := 1) sc__law_start.nd rfl (Or.inl rfl) (pe_op op_mod (pe_op op_add (pe_op op_add (pe_op op_mulW (pv 1) pe_int) (pv 2)) pe_int) pe_int))))
      (pss_one (ps_ret (pe_lst (pa_cons (pv 0) (pa_cons pe_int (pa_cons (pv 1) (pa_cons pe_int pa_nil))))))))), ?_⟩
    wtm_at "go"
    refine g_forL (xs := ns.map V.int) (fun i σ' H' => ∃ (m : Int) (x : Option V), σ' = [some (.ref a), some (.int m), x] ∧ 0 ≤ m ∧ m < 2147483647 ∧ H' = H)
      ⟨1, none, rfl, by omega, by omega, rfl⟩ (fun i σ' H' _ hP => ?_) (fun i x σ' H' hx hP => ?_) (fun σ' H' hP => ?_)
    · obtain ⟨_, _, _, _, _, rfl⟩ := hP
      exact hS
    · obtain ⟨m, x0, rfl, h0, h1, rfl⟩ := hP
      rw [List.getElem?_map, Option.map_eq_some_iff] at hx
      obtain ⟨c, hc, rfl⟩ := hx
      wtm_at "go"
      exact ⟨_, _, rfl, Int.emod_nonneg _ (by omega), Int.emod_lt_of_pos _ (by omega), rfl⟩
    · obtain ⟨m, x0, rfl, h0, h1, rfl⟩ := hP
      wtm_at "go"
      rename_i r H1 n1 m1 e1
      exact q r H1 n1 m1 ⟨⟨a, ns, 0, m, 0, e1, hS, hl, by omega, h0, h1, by omega⟩, n1, m1⟩
def spDrawn : Sp := fun vs H Q _ => ∃ (H0 : Hp) (r : Addr) (n : Int), vs = [.ref r, .int n] ∧ StAt K H0 H r ∧ 0 < n ∧ n < 2 ^ 300 ∧ ∀ x H', 0 ≤ x → x < n → Mx [r] H H' → StAt K H0 H' r → Q (.int x) H'
theorem c__law_drawn (T : Tx K mg) : Cl P w K mg base 1 "_law_drawn" (spDrawn (K := K)) [] := by
  refine T.f__law_drawn.cl sc__law_drawn (fun vs H Q E h => ?_) (fun cdv A outer s H vs Q E hr h => ?_)
  · obtain ⟨_, _, _, rfl, _⟩ := h
    rfl
  · obtain ⟨H0, r, n, rfl, ⟨⟨a, ns, i, m, l, e0, hS, hl, hi, hm0, hm1, hl0⟩, f0, m0⟩, hn0, hn1, q⟩ := h
    refine ⟨_, (pss_cons (ps_if (pt_cmpR op_gt (pe_ix (ixL K) (pv 0) pe_int (fun _ _ => rfl)) pe_int (by first | exact nomark _ | rfl)) (pss_cons (ps_set (i := 2) sc__law_drawn.nd rfl (Or.inl rfl) (pe_op op_mod (pe_ix (ixL K) (pv 0) pe_int (fun _ _ => rfl)) (pv 1)))
      (pss_cons (ps_asg (pe_op op_fdivW (pe_ix (ixL K) (pv 0) pe_int (fun _ _ => rfl)) (pv 1)) (pg_sub (pv 0) pe_int set_list))
      (pss_one (ps_ret (pv 2))))) pss_nil)
      (pss_cons (ps_asg (pe_op op_add (pe_ix (ixL K) (pv 0) pe_int (fun _ _ => rfl)) pe_int) (pg_sub (pv 0) pe_int set_list))
      (pss_cons (ps_if (pt_cmpR op_le (pe_ix (ixL K) (pv 0) pe_int (fun _ _ => rfl)) (pe_callB (cLen K) (by rfl) T.n_len (by decide +kernel) (pa_cons (pe_ix (ixL K) (pv 0) pe_int (fun _ _ => rfl)) pa_nil)) (by first | exact nomark _ | rfl)) (pss_cons (ps_set (i := 3) sc__law_drawn.nd rfl (Or.inl rfl) (pe_ix (ixL K) (pe_ix (ixL K) (pv 0) pe_int (fun _ _ => rfl)) (pe_op op_sub (pe_ix (ixL K) (pv 0) pe_int (fun _ _ => rfl)) pe_int) (fun _ _ => rfl)))
      (pss_cons (ps_asg (pe_ifExp (pt_cmpR op_ge (pv 3) (pe_op op_pow pe_int pe_int) (by first | exact nomark _ | rfl)) (pe_op op_fdivW (pv 3) (pv 1)) pe_int) (pg_sub (pv 0) pe_int set_list))
      (pss_one (ps_ret (pe_op op_mod (pv 3) (pv 1)))))) pss_nil)
      (pss_cons (ps_asg (pe_op op_mod (pe_op op_add (pe_op op_mulW (pe_ix (ixL K) (pv 0) pe_int (fun _ _ => rfl)) pe_int) pe_int) pe_int) (pg_sub (pv 0) pe_int set_list))
      (pss_one (ps_ret (pe_op op_mod (pe_op op_fdivW (pe_ix (ixL K) (pv 0) pe_int (fun _ _ => rfl)) pe_int) (pv 1)))))))), ?_⟩
    wtm_at "go"
    refine g_ite (fun e => ?_) (fun e => ?_)
    · wtm_at "go"
      rename_i H1 m1 e1
      exact q _ _ (Int.emod_nonneg _ (by omega)) (Int.emod_lt_of_pos _ (by omega)) m1 ⟨⟨a, ns, i, m, l / n, e1, hS, hl, hi, hm0, hm1, Int.ediv_nonneg hl0 (by omega)⟩, f0, by wtm_at "mo"⟩
    · wtm_at "go"
      rename_i H1 m1 e1
      refine g_ite (fun e2 => ?_) (fun e2 => ?_)
      · have e3 : i + 1 ≤ (ns.length : Int) := by simpa using e2
        have e4 : i + 1 - 1 = ((i.toNat : Nat) : Int) := by omega
        have e5 : i.toNat < ns.length := by omega
        wtm_at "go"
        refine g_ite (fun e6 => ?_) (fun e6 => ?_)
        · wtm_at "go"
          rename_i H2 m2 e7
          have h6 : 0 ≤ cl ns i.toNat := by
            have : (10 : Int) ^ (18 : Int).toNat ≤ cl ns i.toNat := by simpa using e6
            have h18 : (0 : Int) ≤ 10 ^ (18 : Int).toNat := by decide
            omega
          exact q _ _ (Int.emod_nonneg _ (by omega)) (Int.emod_lt_of_pos _ (by omega)) (m1.trans m2) ⟨⟨a, ns, i + 1, m, cl ns i.toNat / n, e7, hS, hl, by omega, hm0, hm1, Int.ediv_nonneg h6 (by omega)⟩, f0, by wtm_at "mo"⟩
        · wtm_at "go"
          rename_i H2 m2 e7
          exact q _ _ (Int.emod_nonneg _ (by omega)) (Int.emod_lt_of_pos _ (by omega)) (m1.trans m2) ⟨⟨a, ns, i + 1, m, 0, e7, hS, hl, by omega, hm0, hm1, by omega⟩, f0, by wtm_at "mo"⟩
      · wtm_at "go"
        rename_i H2 m2 e7
        exact q _ _ (Int.emod_nonneg _ (by omega)) (Int.emod_lt_of_pos _ (by omega)) (m1.trans m2) ⟨⟨a, ns, i + 1, _, l, e7, hS, hl, by omega, Int.emod_nonneg _ (by omega), Int.emod_lt_of_pos _ (by omega), hl0⟩, f0, by wtm_at "mo"⟩
/-- an amount -/
def spAmount : Sp := fun vs H Q _ => ∃ (H0 : Hp) (r : Addr), vs = [.ref r] ∧ StAt K H0 H r ∧ ∀ x H', 1 ≤ x → x ≤ 99999 → Mx [r] H H' → StAt K H0 H' r → Q (.int x) H'
theorem c__law_amount (T : Tx K mg) : Cl P w K mg base 2 "_law_amount" (spAmount (K := K)) [] := by
  refine T.f__law_amount.cl sc__law_amount (fun vs H Q E h => ?_) (fun cdv A outer s H vs Q E hr h => ?_)
  · obtain ⟨_, _, rfl, _⟩ := h
    rfl
  · obtain ⟨H0, r, rfl, S, q⟩ := h
    refine ⟨_, (pss_one (ps_ret (pe_op op_add pe_int (q_call (c__law_drawn T) hr (by decide) rfl (passes_call (takes_of rfl rfl rfl rfl) (fun _ _ _ _ h => h)) (pa_cons (pv 0) (pa_cons (pe_ix (ixL K) (pe_lst (pa_cons pe_int (pa_cons pe_int (pa_cons pe_int pa_nil)))) (q_call (c__law_drawn T) hr (by decide) rfl (passes_call (takes_of rfl rfl rfl rfl) (fun _ _ _ _ h => h)) (pa_cons (pv 0) (pa_cons pe_int pa_nil))) (fun _ _ => rfl)) pa_nil)))))), ?_⟩
    wtm_at "go"
    rename_i l H1 n1 m1 e1
    refine ⟨H0, r, 3, rfl, S.mx0 m1, by omega, by omega, fun x H2 x0 x1 m2 S2 => ?_⟩
    have ne : l ≠ r := by
      obtain ⟨_, _, _, _, _, h, _⟩ := S.ex
      exact (ne_of_none h n1).symm
    have e2 : H2 l = some (.lst [.int 9, .int 40, .int 99999]) := m2 _ _ e1 (by simpa using ne)
    have fin : ∀ n : Int, 0 < n → n ≤ 99999 → spDrawn (K := K) [.ref r, .int n] H2 (fun y H3 => rI0 (fun i j => .int (i + j)) (.int 1) y H3 Q) E := fun n h0 h1 =>
      ⟨H0, r, n, rfl, S2, h0, by omega, fun y H3 y0 y1 m3 S3 => g_I0 (q _ _ (by omega) (by omega) ((m1.of0.trans m2).trans m3) S3)⟩
    have hx : x = 0 ∨ x = 1 ∨ x = 2 := by omega
    rcases hx with rfl | rfl | rfl
    · wtm_at "go"
      exact fin 9 (by omega) (by omega)
    · wtm_at "go"
      exact fin 40 (by omega) (by omega)
    · wtm_at "go"
      exact fin 99999 (by omega) (by omega)
/-- signs and codes -/
theorem sgn_law (k m c a kd : Int) : (k * (17 * m + 31 * c + 53 * a + kd) + (17 * m + 31 * c + 53 * a + kd)) % 999983 = sgn k m c a kd := by
  unfold sgn
  congr 1
  rw [Int.add_mul, Int.one_mul]
/-- what a meter is -/
def spLMeter : Sp := fun vs H Q _ => ∃ (n k : Int), vs = [.int n, .int k] ∧ ∀ q qc qs H', H q = none → H qc = none → H qs = none → Mx [] H H' → LmAt K H' q qc qs ⟨n, k, 1 :: List.replicate 19 0, [], true⟩ → Q (.ref q) H'
/-- the bank that stands, by own look -/
def spLBank : Sp := fun vs H Q _ => ∃ (a : Addr) (cs : List Int), vs = [.ref a] ∧ SqL K H a (cs.map V.int) ∧ Any cs ∧ ∀ p H', H p = none → Mx [] H H' → H' p = some (.lst ((bank cs).map V.int)) → Q (.ref p) H'
theorem cut_lo {cs : List Int} : cutV (cs.map V.int) none (some 10) = (cs.take 10).map V.int := by
  have e : (10 : Int) = ((10 : Nat) : Int) := rfl
  rw [e]
  unfold cutV
  rw [HT.sIx_nat, HT.sIx_none, List.length_map, List.drop_zero, Nat.sub_zero, List.map_take]
  by_cases h : 10 ≤ cs.length
  · rw [Nat.min_eq_left h]
  · rw [Nat.min_eq_right (by omega), List.take_of_length_le (by simp), List.take_of_length_le (by simp; omega)]
theorem cut_hi {cs : List Int} : cutV (cs.map V.int) (some 10) none = (cs.drop 10).map V.int := by
  have e : (10 : Int) = ((10 : Nat) : Int) := rfl
  rw [e]
  unfold cutV
  rw [HT.sIx_nat, HT.sIx_none, List.length_map, ← List.map_drop]
  by_cases h : 10 ≤ cs.length
  · rw [Nat.min_eq_left h, List.take_of_length_le (by simp)]
  · rw [Nat.min_eq_right (by omega), Nat.sub_self, List.take_zero, List.drop_eq_nil_of_le (by omega)]
    rfl
end
end Fk
namespace Fk
open PySem PySem.Spec PyProof.Rows L2
local macro_rules | `(tactic| wtm_at "ln") => `(tactic| first
  | omega
  | (simp only [List.length_cons, List.length_nil, List.length_map, List.length_append, List.length_replicate, List.length_take, List.length_drop, List.length_set]; omega)
  | (with_unfolding_all exact (by decide)))
local macro_rules | `(tactic| wtm_at "ar") => `(tactic| first
  | ((with_reducible show CMulW _ _); (refine' mulS ?_ ?_ <;> omega))
  | ((with_reducible show CDivW _ _); (refine' divS ?_ ?_ <;> omega))
  | ((with_reducible show CPow _ _); exact ⟨by decide, by decide, by decide⟩)
  | (show (0 : Int) < _; omega)
  | (with_unfolding_all exact (by decide)))
local macro_rules | `(tactic| wtm_at "at") => `(tactic| first
  | assumption
  | (refine' cl_atE ?e80 ?h80; (case' e80 => first | exact rfl | assumption); (case' h80 => wtm_at "ln"))
  | exact rfl)
local macro_rules | `(tactic| wtm_at "fr") => `(tactic| first
  | assumption
  | ((with_reducible refine' Mx.free0 ?m99 ?h99); (case' h99 => assumption); (case' m99 => wtm_at "mo")))
local macro_rules | `(tactic| wtm_at "hp") => `(tactic| first
  | assumption
  | ((with_reducible refine' Mx.get0 ?m1 ?h1); (case' m1 => assumption); (case' h1 => wtm_at "hp"))
  | ((with_reducible refine' Mx.get ?m2 ?n2 ?h2); (case' m2 => assumption); (case' n2 => wtm_at "nin"); (case' h2 => wtm_at "hp")))
local macro_rules | `(tactic| wtm_at "sl") => `(tactic| first
  | assumption
  | ((with_reducible refine' Mx.sqL0 ?m96 ?h96); (case' h96 => assumption); (case' m96 => wtm_at "mo"))
  | (refine' SqL.of ?h3; (case' h3 => wtm_at "hp"))
  | ((with_reducible refine' Mx.sqL0 ?m4 ?h4); (case' m4 => assumption); (case' h4 => wtm_at "sl"))
  | ((with_reducible refine' Mx.sqL ?m5 ?n5 ?h5); (case' m5 => assumption); (case' n5 => wtm_at "nin"); (case' h5 => wtm_at "sl")))
local macro_rules | `(tactic| wtm_at "st") => `(tactic| first
  | assumption
  | ((with_reducible refine' Mx.sqT0 ?m97 ?h97); (case' h97 => assumption); (case' m97 => wtm_at "mo"))
  | (refine' SqT.of ?h6; (case' h6 => wtm_at "hp"))
  | ((with_reducible refine' Mx.sqT0 ?m7 ?h7); (case' m7 => assumption); (case' h7 => wtm_at "st"))
  | ((with_reducible refine' Mx.sqT ?m8 ?n8 ?h8); (case' m8 => assumption); (case' n8 => wtm_at "nin"); (case' h8 => wtm_at "st")))
local macro_rules | `(tactic| wtm_at "mx") => `(tactic| first
  | assumption
  | exact Mx.refl
  | ((with_reducible refine' Mx.of0 ?h9); (case' h9 => assumption))
  | ((with_reducible refine' Mx.trans ?h10 ?m10); (case' m10 => first | assumption | ((with_reducible refine' Mx.of0 ?q10); (case' q10 => assumption))); (case' h10 => wtm_at "mx")))
local macro_rules | `(tactic| wtm_at "mo") => `(tactic| first
  | wtm_at "mx"
  | ((with_reducible refine' Mx.own ?m90 ?f90 ?k90); (case' k90 => assumption); (case' f90 => wtm_at "fr"); (case' m90 => wtm_at "mo"))
  | ((with_reducible refine' Mx.trans ?h91 ?m91); (case' m91 => first | assumption | ((with_reducible refine' Mx.of0 ?q91); (case' q91 => assumption))); (case' h91 => wtm_at "mo")))
local macro_rules | `(tactic| wtm_at "ne") => `(tactic| first
  | assumption
  | exact Ne.symm (by assumption)
  | ((with_reducible refine' ne_of_none ?x94 ?y94); (case' y94 => assumption); (case' x94 => wtm_at "hp"))
  | ((with_reducible refine' Ne.symm (ne_of_none ?x95 ?y95)); (case' y95 => assumption); (case' x95 => wtm_at "hp")))
local macro_rules | `(tactic| wtm_at "nin") => `(tactic| first
  | assumption
  | exact List.not_mem_nil
  | ((with_reducible refine' List.not_mem_cons_of_ne_of_not_mem ?h98 ?t98); (case' h98 => wtm_at "ne"); (case' t98 => wtm_at "nin")))
local macro_rules | `(tactic| wtm_at "g1") => `(tactic| first
  | ((with_reducible refine' g_var ?h11 ?k11); (case' h11 => exact rfl))
  | with_reducible refine' g_c ?_
  | with_reducible refine' g_op ?_
  | with_reducible refine' g_I0 ?_
  | ((with_reducible refine' g_I ?c12 ?k12); (case' c12 => wtm_at "ar"))
  | with_reducible refine' g_cons ?_
  | with_reducible refine' g_nil ?_
  | with_reducible refine' g_seq ?_
  | with_reducible refine' g_asg ?_
  | with_reducible refine' g_name ?_
  | with_reducible refine' g_ret ?_
  | with_reducible refine' g_if ?_
  | with_reducible refine' g_test ?_
  | with_reducible refine' g_tB ?_
  | with_reducible refine' g_bl ?_
  | ((with_reducible refine' g_eq ?h13 ?k13); (case' h13 => exact rfl))
  | ((with_reducible refine' g_ne ?h14 ?k14); (case' h14 => exact rfl))
  | with_reducible refine' g_CB ?_
  | with_reducible refine' g_call ?_
  | with_reducible refine' g_drop ?_
  | with_reducible refine' g_next ?_
  | with_reducible refine' g_not ?_
  | with_reducible refine' g_and ?_
  | with_reducible refine' g_or ?_
  | with_reducible refine' g_un ?_
  | with_reducible refine' g_U ?_
  | with_reducible refine' g_tup ?_
  | with_reducible refine' g_lst ?_
  | ((with_reducible refine' g_kNew ?h15 ?k15); (case' h15 => wtm_at "ln"); (case' k15 => intro _ _ _ _ _))
  | ((with_reducible refine' g_ixL ?h16 ?a16 ?k16); (case' h16 => wtm_at "sl"); (case' a16 => wtm_at "at"))
  | ((with_reducible refine' g_ixT ?h17 ?a17 ?k17); (case' h17 => wtm_at "st"); (case' a17 => wtm_at "at"))
  | with_reducible refine' g_slice ?_
  | with_reducible refine' g_part ?_
  | with_reducible refine' g_kPart ?_
  | with_reducible refine' g_noPart ?_
  | ((with_reducible refine' g_slL ?h18 ?k18); (case' h18 => wtm_at "sl"); (case' k18 => intro _ _ _ _ _))
  | ((with_reducible refine' g_cat ?h119 ?h219 ?l19 ?k19); (case' h119 => wtm_at "hp"); (case' h219 => wtm_at "hp"); (case' l19 => wtm_at "ln"); (case' k19 => intro _ _ _ _ _))
  | ((with_reducible refine' g_rep ?h120 ?h220 ?h320 ?l20 ?k20); (case' h120 => wtm_at "hp"); (case' h220 => wtm_at "ln"); (case' h320 => wtm_at "ln"); (case' l20 => wtm_at "ln"); (case' k20 => intro _ _ _ _ _))
  | ((with_reducible refine' g_append ?h21 ?l21 ?k21); (case' h21 => wtm_at "hp"); (case' l21 => wtm_at "ln"); (case' k21 => intro _ _ _))
  | ((with_reducible refine' g_kBM ?h22 ?k22); (case' h22 => wtm_at "sl"))
  | ((with_reducible refine' g_kBM0 ?h23 ?k23); (case' h23 => wtm_at "sl"))
  | ((with_reducible refine' g_kL ?h24 ?k24); (case' h24 => wtm_at "sl"))
  | ((with_reducible refine' g_kR1 ?h125 ?h225 ?k25); (case' h125 => wtm_at "ln"); (case' h225 => wtm_at "ln"))
  | ((with_reducible refine' g_kR2 ?h126 ?h226 ?h326 ?h426 ?k26); (case' h126 => wtm_at "ln"); (case' h226 => wtm_at "ln"); (case' h326 => wtm_at "ln"); (case' h426 => wtm_at "ln"))
  | ((with_reducible refine' g_lenL ?h27 ?k27); (case' h27 => wtm_at "sl"))
  | ((with_reducible refine' g_lenT ?h28 ?k28); (case' h28 => wtm_at "st"))
  | ((with_reducible refine' g_listL ?h29 ?k29); (case' h29 => wtm_at "sl"); (case' k29 => intro _ _ _ _ _))
  | ((with_reducible refine' g_tupleL ?h30 ?k30); (case' h30 => wtm_at "sl"); (case' k30 => intro _ _ _ _ _))
  | with_reducible refine' g_max ?_
  | with_reducible refine' g_min ?_
  | with_reducible refine' g_intB ?_
  | with_reducible refine' g_fld ?_
  | with_reducible refine' g_put ?_
  | with_reducible refine' g_dget ?_
  | with_reducible refine' g_isN ?_
  | with_reducible refine' g_notN ?_
  | with_reducible refine' g_ifE ?_
  | with_reducible refine' g_andV ?_
  | with_reducible refine' g_orV ?_
  | with_reducible refine' g_notV ?_
  | with_reducible refine' g_kIf ?_
  | with_reducible refine' g_chain ?_
  | with_reducible refine' g_kCh ?_
  | with_reducible refine' g_sub ?_
  | ((with_reducible refine' g_setI ?h92 ?e92 ?j92 ?k92); (case' h92 => wtm_at "hp"); (case' e92 => first | exact rfl | assumption); (case' j92 => wtm_at "ln"); (case' k92 => intro _ _ _))
  | ((with_reducible refine' g_setL ?h89 ?i89 ?k89); (case' h89 => wtm_at "hp"); (case' i89 => exact ixE rfl (by wtm_at "ln")); (case' k89 => intro _ _ _))
  | ((with_reducible refine' g_gtup ?h93 ?e93 ?k93); (case' h93 => wtm_at "st"); (case' e93 => exact rfl))
  | with_reducible refine' g_gcons ?_
  | with_reducible refine' g_gnil ?_
  | with_reducible refine' g_par ?_
  | with_reducible refine' g_kPar ?_
  | with_reducible refine' g_meth ?_
  | with_reducible refine' g_bm ?_
  | with_reducible refine' g_bm0 ?_
  | with_reducible refine' g_raise ?_
  | with_reducible refine' g_for ?_
  | with_reducible refine' g_iR1 ?_
  | with_reducible refine' g_iR2 ?_
  | with_reducible refine' g_iL ?_
  | with_reducible refine' g_lc ?_
  | with_reducible refine' g_retN ?_
  | with_reducible refine' g_no (b := false) rfl ?_
  | with_reducible refine' g_yes (b := true) rfl ?_)
local macro_rules | `(tactic| wtm_at "go") => `(tactic| repeat (wtm_at "g1"))
local macro_rules | `(tactic| wtm_at "gs") => `(tactic| repeat ((fail_if_success (with_reducible refine' g_ifE ?_)); wtm_at "g1"))
local macro_rules | `(tactic| wtm_at "gi") => `(tactic| repeat ((fail_if_success (with_reducible refine' g_if ?_)); wtm_at "g1"))
local macro_rules | `(tactic| wtm_at "gr") => `(tactic| repeat ((fail_if_success (with_reducible refine' g_ret ?_)); wtm_at "g1"))
local macro_rules | `(tactic| wtm_at "gq") => `(tactic| repeat ((fail_if_success (with_reducible refine' g_asg ?_)); wtm_at "g1"))
/-! ### the law's own steps -/
def newsKvs (chs : List (Nat × Int)) : List (Key × V) := chs.map fun c => (Sum.inl (c.1 : Int), V.int c.2)
theorem newsKvs_get {chs : List (Nat × Int)} (nd : (chs.map (·.1)).Nodup) {c : Nat × Int} (h : c ∈ chs) : valV (newsKvs chs) (Sum.inl (c.1 : Int)) = some (.int c.2) := by
  induction chs with
  | nil => cases h
  | cons b r ih =>
    rw [List.map_cons, List.nodup_cons] at nd
    unfold newsKvs valV
    rw [List.map_cons, List.find?_cons]
    rcases List.mem_cons.mp h with rfl | h
    · simp
    · have : ¬ (b.1 : Int) = (c.1 : Int) := fun e => nd.1 (by
        have : b.1 = c.1 := by omega
        rw [this]
        exact List.mem_map_of_mem h)
      have e2 : decide ((Sum.inl (b.1 : Int) : Key) = Sum.inl (c.1 : Int)) = false := by simp [this]
      simp only [e2]
      exact ih nd.2 h
theorem begin_iff {cs : List Int} (hA : Any cs) : (bank cs = cs.take 10 ∧ cl cs 0 = 1) ↔ stand cs = 0 := by
  constructor
  · rintro ⟨h, h0⟩
    have hs := stand_le cs
    refine Classical.byContradiction fun hn => ?_
    have h1 : stand cs = 1 := by omega
    have a0 : cl (bank cs) 0 = cl cs 0 := by rw [h, cl_take (by omega)]
    have a1 : cl (bank cs) 1 = cl cs 1 := by rw [h, cl_take (by omega)]
    rw [cl_bank (by omega), h1] at a0 a1
    refine hn ?_
    unfold stand
    rw [if_pos]
    refine ⟨h0, fun z => ?_⟩
    have : cl cs 11 = cl cs 1 := a1
    omega
  · intro h
    have hw := stand_whole hA
    rw [h] at hw
    exact ⟨by unfold bank; rw [h]; rfl, hw⟩
section
variable {P : Program} {w : World} {K : PySem.W.Frag} {mg : Str → Option Value} {base : Heap}
local macro_rules | `(tactic| wtm_at "g1") => `(tactic| first
  | ((with_reducible refine' g_fOwn (by assumption) ?h201 ?k201); (case' h201 => wtm_at "hp"))
  | ((with_reducible refine' g_fKey (by assumption) ?h202 ?k202); (case' h202 => wtm_at "hp"))
  | ((with_reducible refine' g_fMem (by assumption) ?h203 ?k203); (case' h203 => wtm_at "hp"))
  | ((with_reducible refine' g_fPri (by assumption) ?h204 ?k204); (case' h204 => wtm_at "hp"))
  | ((with_reducible refine' g_fAwa (by assumption) ?h205 ?k205); (case' h205 => wtm_at "hp"))
  | ((with_reducible refine' g_pAwa (by assumption) ?h206 ?k206); (case' h206 => wtm_at "hp"); (case' k206 => intro _ _ _))
  | ((with_reducible refine' g_kMeth ?h207 ?l207 ?k207); (case' h207 => wtm_at "hp"); (case' l207 => exact rfl)))

local macro_rules | `(tactic| wtm_at "g1") => `(tactic| first
  | ((with_reducible refine' g_dNum ?h311 ?k311); (case' h311 => wtm_at "hp"))
  | ((with_reducible refine' g_dKey ?h312 ?k312); (case' h312 => wtm_at "hp"))
  | ((with_reducible refine' g_dCe ?h313 ?k313); (case' h313 => wtm_at "hp"))
  | ((with_reducible refine' g_dSt ?h314 ?k314); (case' h314 => wtm_at "hp"))
  | ((with_reducible refine' g_dUp ?h315 ?k315); (case' h315 => wtm_at "hp"))
  | ((with_reducible refine' g_kDGetS ?h301 ?l301 ?k301); (case' h301 => wtm_at "hp"); (case' l301 => exact rfl))
  | (with_reducible refine' g_dput ?_)
  | (with_reducible refine' g_iK ?_)
  | ((with_reducible refine' g_disp ?k305); (case' k305 => intro _ _ _ _ _))
  | (with_reducible refine' g_pcons ?_)
  | (with_reducible refine' g_pnil ?_)
  | ((with_reducible refine' g_kDisp ?h306 ?e306 ?f306 ?l306 ?k306); (case' h306 => wtm_at "hp"); (case' e306 => exact rfl); (case' f306 => exact rfl); (case' l306 => wtm_at "ln"); (case' k306 => intro _ _ _))
  | ((with_reducible refine' g_pUp ?h302 ?k302); (case' h302 => wtm_at "hp"); (case' k302 => intro _ _ _))
  | ((with_reducible refine' g_pSt ?h303 ?k303); (case' h303 => wtm_at "hp"); (case' k303 => intro _ _ _))
  | ((with_reducible refine' g_pCe ?h304 ?k304); (case' h304 => wtm_at "hp"); (case' k304 => intro _ _ _)))

def spLSteps : Sp := fun vs H Q _ => ∃ (q qc qs d : Addr) (μ : Mt) (chs : List (Nat × Int)), vs = [.ref q, .ref d] ∧ LmAt K H q qc qs μ ∧ Any μ.cells ∧ H d = some (.dK (newsKvs chs)) ∧ (chs.map (·.1)).Nodup ∧ Chs chs ∧
  ∀ p H' ws, H p = none → Mx [] H H' → H' p = some (.lst ws) → DpAll K H' ws ((stepsOf μ.cells chs).map stD) → Q (.ref p) H'
end
end Fk
namespace Fk
open PySem PySem.Spec PyProof.Rows L2
local macro_rules | `(tactic| wtm_at "ln") => `(tactic| first
  | omega
  | (simp only [List.length_cons, List.length_nil, List.length_map, List.length_append, List.length_replicate, List.length_take, List.length_drop, List.length_set]; omega)
  | (with_unfolding_all exact (by decide)))
local macro_rules | `(tactic| wtm_at "ar") => `(tactic| first
  | ((with_reducible show CMulW _ _); (refine' mulS ?_ ?_ <;> omega))
  | ((with_reducible show CDivW _ _); (refine' divS ?_ ?_ <;> omega))
  | ((with_reducible show CPow _ _); exact ⟨by decide, by decide, by decide⟩)
  | (show (0 : Int) < _; omega)
  | (with_unfolding_all exact (by decide)))
local macro_rules | `(tactic| wtm_at "at") => `(tactic| first
  | assumption
  | (refine' cl_atE ?e80 ?h80; (case' e80 => first | exact rfl | assumption); (case' h80 => wtm_at "ln"))
  | exact rfl)
local macro_rules | `(tactic| wtm_at "fr") => `(tactic| first
  | assumption
  | ((with_reducible refine' Mx.free0 ?m99 ?h99); (case' h99 => assumption); (case' m99 => wtm_at "mo")))
local macro_rules | `(tactic| wtm_at "hp") => `(tactic| first
  | assumption
  | ((with_reducible refine' Mx.get0 ?m1 ?h1); (case' m1 => assumption); (case' h1 => wtm_at "hp"))
  | ((with_reducible refine' Mx.get ?m2 ?n2 ?h2); (case' m2 => assumption); (case' n2 => wtm_at "nin"); (case' h2 => wtm_at "hp")))
local macro_rules | `(tactic| wtm_at "sl") => `(tactic| first
  | assumption
  | ((with_reducible refine' Mx.sqL0 ?m96 ?h96); (case' h96 => assumption); (case' m96 => wtm_at "mo"))
  | (refine' SqL.of ?h3; (case' h3 => wtm_at "hp"))
  | ((with_reducible refine' Mx.sqL0 ?m4 ?h4); (case' m4 => assumption); (case' h4 => wtm_at "sl"))
  | ((with_reducible refine' Mx.sqL ?m5 ?n5 ?h5); (case' m5 => assumption); (case' n5 => wtm_at "nin"); (case' h5 => wtm_at "sl")))
local macro_rules | `(tactic| wtm_at "st") => `(tactic| first
  | assumption
  | ((with_reducible refine' Mx.sqT0 ?m97 ?h97); (case' h97 => assumption); (case' m97 => wtm_at "mo"))
  | (refine' SqT.of ?h6; (case' h6 => wtm_at "hp"))
  | ((with_reducible refine' Mx.sqT0 ?m7 ?h7); (case' m7 => assumption); (case' h7 => wtm_at "st"))
  | ((with_reducible refine' Mx.sqT ?m8 ?n8 ?h8); (case' m8 => assumption); (case' n8 => wtm_at "nin"); (case' h8 => wtm_at "st")))
local macro_rules | `(tactic| wtm_at "mx") => `(tactic| first
  | assumption
  | exact Mx.refl
  | ((with_reducible refine' Mx.of0 ?h9); (case' h9 => assumption))
  | ((with_reducible refine' Mx.trans ?h10 ?m10); (case' m10 => first | assumption | ((with_reducible refine' Mx.of0 ?q10); (case' q10 => assumption))); (case' h10 => wtm_at "mx")))
local macro_rules | `(tactic| wtm_at "mo") => `(tactic| first
  | wtm_at "mx"
  | ((with_reducible refine' Mx.own ?m90 ?f90 ?k90); (case' k90 => assumption); (case' f90 => wtm_at "fr"); (case' m90 => wtm_at "mo"))
  | ((with_reducible refine' Mx.trans ?h91 ?m91); (case' m91 => first | assumption | ((with_reducible refine' Mx.of0 ?q91); (case' q91 => assumption))); (case' h91 => wtm_at "mo")))
local macro_rules | `(tactic| wtm_at "ne") => `(tactic| first
  | assumption
  | exact Ne.symm (by assumption)
  | ((with_reducible refine' ne_of_none ?x94 ?y94); (case' y94 => assumption); (case' x94 => wtm_at "hp"))
  | ((with_reducible refine' Ne.symm (ne_of_none ?x95 ?y95)); (case' y95 => assumption); (case' x95 => wtm_at "hp")))
local macro_rules | `(tactic| wtm_at "nin") => `(tactic| first
  | assumption
  | exact List.not_mem_nil
  | ((with_reducible refine' List.not_mem_cons_of_ne_of_not_mem ?h98 ?t98); (case' h98 => wtm_at "ne"); (case' t98 => wtm_at "nin")))
local macro_rules | `(tactic| wtm_at "g1") => `(tactic| first
  | ((with_reducible refine' g_var ?h11 ?k11); (case' h11 => exact rfl))
  | with_reducible refine' g_c ?_
  | with_reducible refine' g_op ?_
  | with_reducible refine' g_I0 ?_
  | ((with_reducible refine' g_I ?c12 ?k12); (case' c12 => wtm_at "ar"))
  | with_reducible refine' g_cons ?_
  | with_reducible refine' g_nil ?_
  | with_reducible refine' g_seq ?_
  | with_reducible refine' g_asg ?_
  | with_reducible refine' g_name ?_
  | with_reducible refine' g_ret ?_
  | with_reducible refine' g_if ?_
  | with_reducible refine' g_test ?_
  | with_reducible refine' g_tB ?_
  | with_reducible refine' g_bl ?_
  | ((with_reducible refine' g_eq ?h13 ?k13); (case' h13 => exact rfl))
  | ((with_reducible refine' g_ne ?h14 ?k14); (case' h14 => exact rfl))
  | with_reducible refine' g_CB ?_
  | with_reducible refine' g_call ?_
  | with_reducible refine' g_drop ?_
  | with_reducible refine' g_next ?_
  | with_reducible refine' g_not ?_
  | with_reducible refine' g_and ?_
  | with_reducible refine' g_or ?_
  | with_reducible refine' g_un ?_
  | with_reducible refine' g_U ?_
  | with_reducible refine' g_tup ?_
  | with_reducible refine' g_lst ?_
  | ((with_reducible refine' g_kNew ?h15 ?k15); (case' h15 => wtm_at "ln"); (case' k15 => intro _ _ _ _ _))
  | ((with_reducible refine' g_ixL ?h16 ?a16 ?k16); (case' h16 => wtm_at "sl"); (case' a16 => wtm_at "at"))
  | ((with_reducible refine' g_ixT ?h17 ?a17 ?k17); (case' h17 => wtm_at "st"); (case' a17 => wtm_at "at"))
  | with_reducible refine' g_slice ?_
  | with_reducible refine' g_part ?_
  | with_reducible refine' g_kPart ?_
  | with_reducible refine' g_noPart ?_
  | ((with_reducible refine' g_slL ?h18 ?k18); (case' h18 => wtm_at "sl"); (case' k18 => intro _ _ _ _ _))
  | ((with_reducible refine' g_cat ?h119 ?h219 ?l19 ?k19); (case' h119 => wtm_at "hp"); (case' h219 => wtm_at "hp"); (case' l19 => wtm_at "ln"); (case' k19 => intro _ _ _ _ _))
  | ((with_reducible refine' g_rep ?h120 ?h220 ?h320 ?l20 ?k20); (case' h120 => wtm_at "hp"); (case' h220 => wtm_at "ln"); (case' h320 => wtm_at "ln"); (case' l20 => wtm_at "ln"); (case' k20 => intro _ _ _ _ _))
  | ((with_reducible refine' g_append ?h21 ?l21 ?k21); (case' h21 => wtm_at "hp"); (case' l21 => wtm_at "ln"); (case' k21 => intro _ _ _))
  | ((with_reducible refine' g_kBM ?h22 ?k22); (case' h22 => wtm_at "sl"))
  | ((with_reducible refine' g_kBM0 ?h23 ?k23); (case' h23 => wtm_at "sl"))
  | ((with_reducible refine' g_kL ?h24 ?k24); (case' h24 => wtm_at "sl"))
  | ((with_reducible refine' g_kR1 ?h125 ?h225 ?k25); (case' h125 => wtm_at "ln"); (case' h225 => wtm_at "ln"))
  | ((with_reducible refine' g_kR2 ?h126 ?h226 ?h326 ?h426 ?k26); (case' h126 => wtm_at "ln"); (case' h226 => wtm_at "ln"); (case' h326 => wtm_at "ln"); (case' h426 => wtm_at "ln"))
  | ((with_reducible refine' g_lenL ?h27 ?k27); (case' h27 => wtm_at "sl"))
  | ((with_reducible refine' g_lenT ?h28 ?k28); (case' h28 => wtm_at "st"))
  | ((with_reducible refine' g_listL ?h29 ?k29); (case' h29 => wtm_at "sl"); (case' k29 => intro _ _ _ _ _))
  | ((with_reducible refine' g_tupleL ?h30 ?k30); (case' h30 => wtm_at "sl"); (case' k30 => intro _ _ _ _ _))
  | with_reducible refine' g_max ?_
  | with_reducible refine' g_min ?_
  | with_reducible refine' g_intB ?_
  | with_reducible refine' g_fld ?_
  | with_reducible refine' g_put ?_
  | with_reducible refine' g_dget ?_
  | with_reducible refine' g_isN ?_
  | with_reducible refine' g_notN ?_
  | with_reducible refine' g_ifE ?_
  | with_reducible refine' g_andV ?_
  | with_reducible refine' g_orV ?_
  | with_reducible refine' g_notV ?_
  | with_reducible refine' g_kIf ?_
  | with_reducible refine' g_chain ?_
  | with_reducible refine' g_kCh ?_
  | with_reducible refine' g_sub ?_
  | ((with_reducible refine' g_setI ?h92 ?e92 ?j92 ?k92); (case' h92 => wtm_at "hp"); (case' e92 => first | exact rfl | assumption); (case' j92 => wtm_at "ln"); (case' k92 => intro _ _ _))
  | ((with_reducible refine' g_setL ?h89 ?i89 ?k89); (case' h89 => wtm_at "hp"); (case' i89 => exact ixE rfl (by wtm_at "ln")); (case' k89 => intro _ _ _))
  | ((with_reducible refine' g_gtup ?h93 ?e93 ?k93); (case' h93 => wtm_at "st"); (case' e93 => exact rfl))
  | with_reducible refine' g_gcons ?_
  | with_reducible refine' g_gnil ?_
  | with_reducible refine' g_par ?_
  | with_reducible refine' g_kPar ?_
  | with_reducible refine' g_meth ?_
  | with_reducible refine' g_bm ?_
  | with_reducible refine' g_bm0 ?_
  | with_reducible refine' g_raise ?_
  | with_reducible refine' g_for ?_
  | with_reducible refine' g_iR1 ?_
  | with_reducible refine' g_iR2 ?_
  | with_reducible refine' g_iL ?_
  | with_reducible refine' g_lc ?_
  | with_reducible refine' g_retN ?_
  | with_reducible refine' g_no (b := false) rfl ?_
  | with_reducible refine' g_yes (b := true) rfl ?_)
local macro_rules | `(tactic| wtm_at "go") => `(tactic| repeat (wtm_at "g1"))
local macro_rules | `(tactic| wtm_at "gs") => `(tactic| repeat ((fail_if_success (with_reducible refine' g_ifE ?_)); wtm_at "g1"))
local macro_rules | `(tactic| wtm_at "gi") => `(tactic| repeat ((fail_if_success (with_reducible refine' g_if ?_)); wtm_at "g1"))
local macro_rules | `(tactic| wtm_at "gr") => `(tactic| repeat ((fail_if_success (with_reducible refine' g_ret ?_)); wtm_at "g1"))
local macro_rules | `(tactic| wtm_at "gq") => `(tactic| repeat ((fail_if_success (with_reducible refine' g_asg ?_)); wtm_at "g1"))
/-! ### the law's own deeds -/
def runM (μ : Mt) (chs : List (Nat × Int)) (cut : Option Nat) : Bool × Mt :=
  match writeM μ chs cut with
  | (none, μ1) => (false, μ1)
  | (some left, μ1) => printM μ1 left
theorem lastNo_cons (ss : List (Int × Int)) : lastNo ((0, 0) :: ss) = lastNo ss := by
  unfold lastNo
  cases ss with
  | nil => rfl
  | cons a r => rw [List.getLast?_cons_cons]
section
variable {P : Program} {w : World} {K : PySem.W.Frag} {mg : Str → Option Value} {base : Heap}
local macro_rules | `(tactic| wtm_at "g1") => `(tactic| first
  | ((with_reducible refine' g_fOwn (by assumption) ?h201 ?k201); (case' h201 => wtm_at "hp"))
  | ((with_reducible refine' g_fKey (by assumption) ?h202 ?k202); (case' h202 => wtm_at "hp"))
  | ((with_reducible refine' g_fMem (by assumption) ?h203 ?k203); (case' h203 => wtm_at "hp"))
  | ((with_reducible refine' g_fPri (by assumption) ?h204 ?k204); (case' h204 => wtm_at "hp"))
  | ((with_reducible refine' g_fAwa (by assumption) ?h205 ?k205); (case' h205 => wtm_at "hp"))
  | ((with_reducible refine' g_pAwa (by assumption) ?h206 ?k206); (case' h206 => wtm_at "hp"); (case' k206 => intro _ _ _))
  | ((with_reducible refine' g_kMeth ?h207 ?l207 ?k207); (case' h207 => wtm_at "hp"); (case' l207 => exact rfl)))

local macro_rules | `(tactic| wtm_at "g1") => `(tactic| first
  | ((with_reducible refine' g_dNum ?h311 ?k311); (case' h311 => wtm_at "hp"))
  | ((with_reducible refine' g_dKey ?h312 ?k312); (case' h312 => wtm_at "hp"))
  | ((with_reducible refine' g_dCe ?h313 ?k313); (case' h313 => wtm_at "hp"))
  | ((with_reducible refine' g_dSt ?h314 ?k314); (case' h314 => wtm_at "hp"))
  | ((with_reducible refine' g_dUp ?h315 ?k315); (case' h315 => wtm_at "hp"))
  | ((with_reducible refine' g_kDGetS ?h301 ?l301 ?k301); (case' h301 => wtm_at "hp"); (case' l301 => exact rfl))
  | (with_reducible refine' g_dput ?_)
  | (with_reducible refine' g_iK ?_)
  | ((with_reducible refine' g_disp ?k305); (case' k305 => intro _ _ _ _ _))
  | (with_reducible refine' g_pcons ?_)
  | (with_reducible refine' g_pnil ?_)
  | ((with_reducible refine' g_kDisp ?h306 ?e306 ?f306 ?l306 ?k306); (case' h306 => wtm_at "hp"); (case' e306 => exact rfl); (case' f306 => exact rfl); (case' l306 => wtm_at "ln"); (case' k306 => intro _ _ _))
  | ((with_reducible refine' g_pUp ?h302 ?k302); (case' h302 => wtm_at "hp"); (case' k302 => intro _ _ _))
  | ((with_reducible refine' g_pSt ?h303 ?k303); (case' h303 => wtm_at "hp"); (case' k303 => intro _ _ _))
  | ((with_reducible refine' g_pCe ?h304 ?k304); (case' h304 => wtm_at "hp"); (case' k304 => intro _ _ _)))

def spLOwed : Sp := fun vs H Q _ => ∃ (q qc qs : Addr) (μ : Mt), vs = [.ref q] ∧ LmAt K H q qc qs μ ∧ Any μ.cells ∧ μ.stamps.length < 1000 ∧
  match owed μ with
  | none => ∀ H', Mx [] H H' → Q .non H'
  | some s => ∀ l H', H l = none → Mx [] H H' → H' l = some (.tup [.int s.1, .int s.2]) → Q (.ref l) H'
/-- the steps and the print that is owed, up to a cut -/
def spLRun : Sp := fun vs H Q _ => ∃ (q qc qs d : Addr) (μ : Mt) (chs : List (Nat × Int)) (cut : Option Nat), vs = [.ref q, .ref d, cutO cut] ∧ LmAt K H q qc qs μ ∧ Any μ.cells ∧ μ.stamps.length < 1000 ∧ H d = some (.dK (newsKvs chs)) ∧ (chs.map (·.1)).Nodup ∧ Chs chs ∧
  ∀ H', Mx [q, qc, qs] H H' → LmAt K H' q qc qs (runM μ chs cut).2 → Q (.bl (runM μ chs cut).1) H'
theorem cut_eq {c : Option Nat} {i : Nat} (h : decide (V.int (i : Int) = cutO c) = true) : c = some i := by
  cases c with
  | none => simp [cutO] at h
  | some k => simp [cutO] at h; simp; omega
theorem cut_ne {c : Option Nat} {i : Nat} (h : decide (V.int (i : Int) = cutO c) = false) : c ≠ some i := by
  rintro rfl
  simp [cutO] at h
theorem scal_icut (i : Int) (c : Option Nat) : scal (.int i) (cutO c) = true := by cases c <;> rfl
theorem scal_cuti (i : Int) (c : Option Nat) : scal (cutO c) (.int i) = true := by cases c <;> rfl
end
end Fk
namespace Fk
open PySem PySem.Spec PyProof.Rows L2
local macro_rules | `(tactic| wtm_at "ln") => `(tactic| first
  | omega
  | (simp only [List.length_cons, List.length_nil, List.length_map, List.length_append, List.length_replicate, List.length_take, List.length_drop, List.length_set]; omega)
  | (with_unfolding_all exact (by decide)))
local macro_rules | `(tactic| wtm_at "ar") => `(tactic| first
  | ((with_reducible show CMulW _ _); (refine' mulS ?_ ?_ <;> omega))
  | ((with_reducible show CDivW _ _); (refine' divS ?_ ?_ <;> omega))
  | ((with_reducible show CPow _ _); exact ⟨by decide, by decide, by decide⟩)
  | (show (0 : Int) < _; omega)
  | (with_unfolding_all exact (by decide)))
local macro_rules | `(tactic| wtm_at "at") => `(tactic| first
  | assumption
  | (refine' cl_atE ?e80 ?h80; (case' e80 => first | exact rfl | assumption); (case' h80 => wtm_at "ln"))
  | exact rfl)
local macro_rules | `(tactic| wtm_at "fr") => `(tactic| first
  | assumption
  | ((with_reducible refine' Mx.free0 ?m99 ?h99); (case' h99 => assumption); (case' m99 => wtm_at "mo")))
local macro_rules | `(tactic| wtm_at "hp") => `(tactic| first
  | assumption
  | ((with_reducible refine' Mx.get0 ?m1 ?h1); (case' m1 => assumption); (case' h1 => wtm_at "hp"))
  | ((with_reducible refine' Mx.get ?m2 ?n2 ?h2); (case' m2 => assumption); (case' n2 => wtm_at "nin"); (case' h2 => wtm_at "hp")))
local macro_rules | `(tactic| wtm_at "sl") => `(tactic| first
  | assumption
  | ((with_reducible refine' Mx.sqL0 ?m96 ?h96); (case' h96 => assumption); (case' m96 => wtm_at "mo"))
  | (refine' SqL.of ?h3; (case' h3 => wtm_at "hp"))
  | ((with_reducible refine' Mx.sqL0 ?m4 ?h4); (case' m4 => assumption); (case' h4 => wtm_at "sl"))
  | ((with_reducible refine' Mx.sqL ?m5 ?n5 ?h5); (case' m5 => assumption); (case' n5 => wtm_at "nin"); (case' h5 => wtm_at "sl")))
local macro_rules | `(tactic| wtm_at "st") => `(tactic| first
  | assumption
  | ((with_reducible refine' Mx.sqT0 ?m97 ?h97); (case' h97 => assumption); (case' m97 => wtm_at "mo"))
  | (refine' SqT.of ?h6; (case' h6 => wtm_at "hp"))
  | ((with_reducible refine' Mx.sqT0 ?m7 ?h7); (case' m7 => assumption); (case' h7 => wtm_at "st"))
  | ((with_reducible refine' Mx.sqT ?m8 ?n8 ?h8); (case' m8 => assumption); (case' n8 => wtm_at "nin"); (case' h8 => wtm_at "st")))
local macro_rules | `(tactic| wtm_at "mx") => `(tactic| first
  | assumption
  | exact Mx.refl
  | ((with_reducible refine' Mx.of0 ?h9); (case' h9 => assumption))
  | ((with_reducible refine' Mx.trans ?h10 ?m10); (case' m10 => first | assumption | ((with_reducible refine' Mx.of0 ?q10); (case' q10 => assumption))); (case' h10 => wtm_at "mx")))
local macro_rules | `(tactic| wtm_at "mo") => `(tactic| first
  | wtm_at "mx"
  | ((with_reducible refine' Mx.own ?m90 ?f90 ?k90); (case' k90 => assumption); (case' f90 => wtm_at "fr"); (case' m90 => wtm_at "mo"))
  | ((with_reducible refine' Mx.trans ?h91 ?m91); (case' m91 => first | assumption | ((with_reducible refine' Mx.of0 ?q91); (case' q91 => assumption))); (case' h91 => wtm_at "mo")))
local macro_rules | `(tactic| wtm_at "ne") => `(tactic| first
  | assumption
  | exact Ne.symm (by assumption)
  | ((with_reducible refine' ne_of_none ?x94 ?y94); (case' y94 => assumption); (case' x94 => wtm_at "hp"))
  | ((with_reducible refine' Ne.symm (ne_of_none ?x95 ?y95)); (case' y95 => assumption); (case' x95 => wtm_at "hp")))
local macro_rules | `(tactic| wtm_at "nin") => `(tactic| first
  | assumption
  | exact List.not_mem_nil
  | ((with_reducible refine' List.not_mem_cons_of_ne_of_not_mem ?h98 ?t98); (case' h98 => wtm_at "ne"); (case' t98 => wtm_at "nin")))
local macro_rules | `(tactic| wtm_at "g1") => `(tactic| first
  | ((with_reducible refine' g_var ?h11 ?k11); (case' h11 => exact rfl))
  | with_reducible refine' g_c ?_
  | with_reducible refine' g_op ?_
  | with_reducible refine' g_I0 ?_
  | ((with_reducible refine' g_I ?c12 ?k12); (case' c12 => wtm_at "ar"))
  | with_reducible refine' g_cons ?_
  | with_reducible refine' g_nil ?_
  | with_reducible refine' g_seq ?_
  | with_reducible refine' g_asg ?_
  | with_reducible refine' g_name ?_
  | with_reducible refine' g_ret ?_
  | with_reducible refine' g_if ?_
  | with_reducible refine' g_test ?_
  | with_reducible refine' g_tB ?_
  | with_reducible refine' g_bl ?_
  | ((with_reducible refine' g_eq ?h13 ?k13); (case' h13 => exact rfl))
  | ((with_reducible refine' g_ne ?h14 ?k14); (case' h14 => exact rfl))
  | with_reducible refine' g_CB ?_
  | with_reducible refine' g_call ?_
  | with_reducible refine' g_drop ?_
  | with_reducible refine' g_next ?_
  | with_reducible refine' g_not ?_
  | with_reducible refine' g_and ?_
  | with_reducible refine' g_or ?_
  | with_reducible refine' g_un ?_
  | with_reducible refine' g_U ?_
  | with_reducible refine' g_tup ?_
  | with_reducible refine' g_lst ?_
  | ((with_reducible refine' g_kNew ?h15 ?k15); (case' h15 => wtm_at "ln"); (case' k15 => intro _ _ _ _ _))
  | ((with_reducible refine' g_ixL ?h16 ?a16 ?k16); (case' h16 => wtm_at "sl"); (case' a16 => wtm_at "at"))
  | ((with_reducible refine' g_ixT ?h17 ?a17 ?k17); (case' h17 => wtm_at "st"); (case' a17 => wtm_at "at"))
  | with_reducible refine' g_slice ?_
  | with_reducible refine' g_part ?_
  | with_reducible refine' g_kPart ?_
  | with_reducible refine' g_noPart ?_
  | ((with_reducible refine' g_slL ?h18 ?k18); (case' h18 => wtm_at "sl"); (case' k18 => intro _ _ _ _ _))
  | ((with_reducible refine' g_cat ?h119 ?h219 ?l19 ?k19); (case' h119 => wtm_at "hp"); (case' h219 => wtm_at "hp"); (case' l19 => wtm_at "ln"); (case' k19 => intro _ _ _ _ _))
  | ((with_reducible refine' g_rep ?h120 ?h220 ?h320 ?l20 ?k20); (case' h120 => wtm_at "hp"); (case' h220 => wtm_at "ln"); (case' h320 => wtm_at "ln"); (case' l20 => wtm_at "ln"); (case' k20 => intro _ _ _ _ _))
  | ((with_reducible refine' g_append ?h21 ?l21 ?k21); (case' h21 => wtm_at "hp"); (case' l21 => wtm_at "ln"); (case' k21 => intro _ _ _))
  | ((with_reducible refine' g_kBM ?h22 ?k22); (case' h22 => wtm_at "sl"))
  | ((with_reducible refine' g_kBM0 ?h23 ?k23); (case' h23 => wtm_at "sl"))
  | ((with_reducible refine' g_kL ?h24 ?k24); (case' h24 => wtm_at "sl"))
  | ((with_reducible refine' g_kR1 ?h125 ?h225 ?k25); (case' h125 => wtm_at "ln"); (case' h225 => wtm_at "ln"))
  | ((with_reducible refine' g_kR2 ?h126 ?h226 ?h326 ?h426 ?k26); (case' h126 => wtm_at "ln"); (case' h226 => wtm_at "ln"); (case' h326 => wtm_at "ln"); (case' h426 => wtm_at "ln"))
  | ((with_reducible refine' g_lenL ?h27 ?k27); (case' h27 => wtm_at "sl"))
  | ((with_reducible refine' g_lenT ?h28 ?k28); (case' h28 => wtm_at "st"))
  | ((with_reducible refine' g_listL ?h29 ?k29); (case' h29 => wtm_at "sl"); (case' k29 => intro _ _ _ _ _))
  | ((with_reducible refine' g_tupleL ?h30 ?k30); (case' h30 => wtm_at "sl"); (case' k30 => intro _ _ _ _ _))
  | with_reducible refine' g_max ?_
  | with_reducible refine' g_min ?_
  | with_reducible refine' g_intB ?_
  | with_reducible refine' g_fld ?_
  | with_reducible refine' g_put ?_
  | with_reducible refine' g_dget ?_
  | with_reducible refine' g_isN ?_
  | with_reducible refine' g_notN ?_
  | with_reducible refine' g_ifE ?_
  | with_reducible refine' g_andV ?_
  | with_reducible refine' g_orV ?_
  | with_reducible refine' g_notV ?_
  | with_reducible refine' g_kIf ?_
  | with_reducible refine' g_chain ?_
  | with_reducible refine' g_kCh ?_
  | with_reducible refine' g_sub ?_
  | ((with_reducible refine' g_setI ?h92 ?e92 ?j92 ?k92); (case' h92 => wtm_at "hp"); (case' e92 => first | exact rfl | assumption); (case' j92 => wtm_at "ln"); (case' k92 => intro _ _ _))
  | ((with_reducible refine' g_setL ?h89 ?i89 ?k89); (case' h89 => wtm_at "hp"); (case' i89 => exact ixE rfl (by wtm_at "ln")); (case' k89 => intro _ _ _))
  | ((with_reducible refine' g_gtup ?h93 ?e93 ?k93); (case' h93 => wtm_at "st"); (case' e93 => exact rfl))
  | with_reducible refine' g_gcons ?_
  | with_reducible refine' g_gnil ?_
  | with_reducible refine' g_par ?_
  | with_reducible refine' g_kPar ?_
  | with_reducible refine' g_meth ?_
  | with_reducible refine' g_bm ?_
  | with_reducible refine' g_bm0 ?_
  | with_reducible refine' g_raise ?_
  | with_reducible refine' g_for ?_
  | with_reducible refine' g_iR1 ?_
  | with_reducible refine' g_iR2 ?_
  | with_reducible refine' g_iL ?_
  | with_reducible refine' g_lc ?_
  | with_reducible refine' g_retN ?_
  | with_reducible refine' g_no (b := false) rfl ?_
  | with_reducible refine' g_yes (b := true) rfl ?_)
local macro_rules | `(tactic| wtm_at "go") => `(tactic| repeat (wtm_at "g1"))
local macro_rules | `(tactic| wtm_at "gs") => `(tactic| repeat ((fail_if_success (with_reducible refine' g_ifE ?_)); wtm_at "g1"))
local macro_rules | `(tactic| wtm_at "gi") => `(tactic| repeat ((fail_if_success (with_reducible refine' g_if ?_)); wtm_at "g1"))
local macro_rules | `(tactic| wtm_at "gr") => `(tactic| repeat ((fail_if_success (with_reducible refine' g_ret ?_)); wtm_at "g1"))
local macro_rules | `(tactic| wtm_at "gq") => `(tactic| repeat ((fail_if_success (with_reducible refine' g_asg ?_)); wtm_at "g1"))
/-! ### deeds, told and gone through -/
inductive Dd where
  | stamp (a : Int) | back (a : Int) | top (z : Cd) | up
/-- a deed's tuple -/
def DdAt (H : Hp) (t : Addr) : Dd → Prop
  | .stamp a => H t = some (.tup [.str "stamp", .int a])
  | .back a => H t = some (.tup [.str "give_back", .int a])
  | .top z => ∃ c, H t = some (.tup [.str "top_up", .ref c]) ∧ H c = some (.tup z.vs)
  | .up => H t = some (.tup [.str "come_up"])
theorem mx_tup {S : List Addr} {H H' : Hp} {a : Addr} {xs : List V} (m : Mx S H H') (n : NoTup H S) (h : H a = some (.tup xs)) : H' a = some (.tup xs) := m a _ h fun z => (n a z _ h).1 xs rfl
theorem DdAt.mx {S : List Addr} {H H' : Hp} {t : Addr} {d : Dd} (h : DdAt H t d) (m : Mx S H H') (n : NoTup H S) : DdAt H' t d := by
  cases d with
  | stamp a => exact mx_tup m n h
  | back a => exact mx_tup m n h
  | up => exact mx_tup m n h
  | top z => obtain ⟨c, h1, h2⟩ := h; exact ⟨c, mx_tup m n h1, mx_tup m n h2⟩
theorem DdAt.mx0 {H H' : Hp} {t : Addr} {d : Dd} (h : DdAt H t d) (m : Mx [] H H') : DdAt H' t d := h.mx m noTup0
def Rf.word : Rf → Str
  | .down => "Down"
  | .up => "Up"
  | .amount => "BadAmount"
  | .code => "BadCode"
  | .short => "Short"
  | .bank => "NoBank"
  | .number => "BadNumber"
  | .meter => "NoMeter"
def refR (μ : Mt) : Dd → Option Rf
  | .stamp a => stampR μ a
  | .back a => stampR μ a
  | .top z => topR μ z
  | .up => none
def wordOf : Option Rf → Str
  | none => ""
  | some r => r.word
def Dd.small : Dd → Prop
  | .stamp _ => True
  | .back _ => True
  | .top z => Bd z.m ∧ Bd z.c
  | .up => True
section
variable {P : Program} {w : World} {K : PySem.W.Frag} {mg : Str → Option Value} {base : Heap}
local macro_rules | `(tactic| wtm_at "g1") => `(tactic| first
  | ((with_reducible refine' g_fOwn (by assumption) ?h201 ?k201); (case' h201 => wtm_at "hp"))
  | ((with_reducible refine' g_fKey (by assumption) ?h202 ?k202); (case' h202 => wtm_at "hp"))
  | ((with_reducible refine' g_fMem (by assumption) ?h203 ?k203); (case' h203 => wtm_at "hp"))
  | ((with_reducible refine' g_fPri (by assumption) ?h204 ?k204); (case' h204 => wtm_at "hp"))
  | ((with_reducible refine' g_fAwa (by assumption) ?h205 ?k205); (case' h205 => wtm_at "hp"))
  | ((with_reducible refine' g_pAwa (by assumption) ?h206 ?k206); (case' h206 => wtm_at "hp"); (case' k206 => intro _ _ _))
  | ((with_reducible refine' g_kMeth ?h207 ?l207 ?k207); (case' h207 => wtm_at "hp"); (case' l207 => exact rfl)))

local macro_rules | `(tactic| wtm_at "g1") => `(tactic| first
  | ((with_reducible refine' g_dNum ?h311 ?k311); (case' h311 => wtm_at "hp"))
  | ((with_reducible refine' g_dKey ?h312 ?k312); (case' h312 => wtm_at "hp"))
  | ((with_reducible refine' g_dCe ?h313 ?k313); (case' h313 => wtm_at "hp"))
  | ((with_reducible refine' g_dSt ?h314 ?k314); (case' h314 => wtm_at "hp"))
  | ((with_reducible refine' g_dUp ?h315 ?k315); (case' h315 => wtm_at "hp"))
  | ((with_reducible refine' g_kDGetS ?h301 ?l301 ?k301); (case' h301 => wtm_at "hp"); (case' l301 => exact rfl))
  | (with_reducible refine' g_dput ?_)
  | (with_reducible refine' g_iK ?_)
  | ((with_reducible refine' g_disp ?k305); (case' k305 => intro _ _ _ _ _))
  | (with_reducible refine' g_pcons ?_)
  | (with_reducible refine' g_pnil ?_)
  | ((with_reducible refine' g_kDisp ?h306 ?e306 ?f306 ?l306 ?k306); (case' h306 => wtm_at "hp"); (case' e306 => exact rfl); (case' f306 => exact rfl); (case' l306 => wtm_at "ln"); (case' k306 => intro _ _ _))
  | ((with_reducible refine' g_pUp ?h302 ?k302); (case' h302 => wtm_at "hp"); (case' k302 => intro _ _ _))
  | ((with_reducible refine' g_pSt ?h303 ?k303); (case' h303 => wtm_at "hp"); (case' k303 => intro _ _ _))
  | ((with_reducible refine' g_pCe ?h304 ?k304); (case' h304 => wtm_at "hp"); (case' k304 => intro _ _ _)))

/-- the word of a refusal -/
def spLWord : Sp := fun vs H Q _ => ∃ (q qc qs t : Addr) (μ : Mt) (d : Dd), vs = [.ref q, .ref t] ∧ LmAt K H q qc qs μ ∧ Any μ.cells ∧ Sm μ ∧ DdAt H t d ∧ d ≠ .up ∧ ∀ H', Mx [] H H' → Q (.str (wordOf (refR μ d))) H'
end
end Fk
namespace Fk
open PySem PySem.Spec PyProof.Rows L2
local macro_rules | `(tactic| wtm_at "ln") => `(tactic| first
  | omega
  | (simp only [List.length_cons, List.length_nil, List.length_map, List.length_append, List.length_replicate, List.length_take, List.length_drop, List.length_set]; omega)
  | (with_unfolding_all exact (by decide)))
local macro_rules | `(tactic| wtm_at "ar") => `(tactic| first
  | ((with_reducible show CMulW _ _); (refine' mulS ?_ ?_ <;> omega))
  | ((with_reducible show CDivW _ _); (refine' divS ?_ ?_ <;> omega))
  | ((with_reducible show CPow _ _); exact ⟨by decide, by decide, by decide⟩)
  | (show (0 : Int) < _; omega)
  | (with_unfolding_all exact (by decide)))
local macro_rules | `(tactic| wtm_at "at") => `(tactic| first
  | assumption
  | (refine' cl_atE ?e80 ?h80; (case' e80 => first | exact rfl | assumption); (case' h80 => wtm_at "ln"))
  | exact rfl)
local macro_rules | `(tactic| wtm_at "fr") => `(tactic| first
  | assumption
  | ((with_reducible refine' Mx.free0 ?m99 ?h99); (case' h99 => assumption); (case' m99 => wtm_at "mo")))
local macro_rules | `(tactic| wtm_at "hp") => `(tactic| first
  | assumption
  | ((with_reducible refine' Mx.get0 ?m1 ?h1); (case' m1 => assumption); (case' h1 => wtm_at "hp"))
  | ((with_reducible refine' Mx.get ?m2 ?n2 ?h2); (case' m2 => assumption); (case' n2 => wtm_at "nin"); (case' h2 => wtm_at "hp")))
local macro_rules | `(tactic| wtm_at "sl") => `(tactic| first
  | assumption
  | ((with_reducible refine' Mx.sqL0 ?m96 ?h96); (case' h96 => assumption); (case' m96 => wtm_at "mo"))
  | (refine' SqL.of ?h3; (case' h3 => wtm_at "hp"))
  | ((with_reducible refine' Mx.sqL0 ?m4 ?h4); (case' m4 => assumption); (case' h4 => wtm_at "sl"))
  | ((with_reducible refine' Mx.sqL ?m5 ?n5 ?h5); (case' m5 => assumption); (case' n5 => wtm_at "nin"); (case' h5 => wtm_at "sl")))
local macro_rules | `(tactic| wtm_at "st") => `(tactic| first
  | assumption
  | ((with_reducible refine' Mx.sqT0 ?m97 ?h97); (case' h97 => assumption); (case' m97 => wtm_at "mo"))
  | (refine' SqT.of ?h6; (case' h6 => wtm_at "hp"))
  | ((with_reducible refine' Mx.sqT0 ?m7 ?h7); (case' m7 => assumption); (case' h7 => wtm_at "st"))
  | ((with_reducible refine' Mx.sqT ?m8 ?n8 ?h8); (case' m8 => assumption); (case' n8 => wtm_at "nin"); (case' h8 => wtm_at "st")))
local macro_rules | `(tactic| wtm_at "mx") => `(tactic| first
  | assumption
  | exact Mx.refl
  | ((with_reducible refine' Mx.of0 ?h9); (case' h9 => assumption))
  | ((with_reducible refine' Mx.trans ?h10 ?m10); (case' m10 => first | assumption | ((with_reducible refine' Mx.of0 ?q10); (case' q10 => assumption))); (case' h10 => wtm_at "mx")))
local macro_rules | `(tactic| wtm_at "mo") => `(tactic| first
  | wtm_at "mx"
  | ((with_reducible refine' Mx.own ?m90 ?f90 ?k90); (case' k90 => assumption); (case' f90 => wtm_at "fr"); (case' m90 => wtm_at "mo"))
  | ((with_reducible refine' Mx.trans ?h91 ?m91); (case' m91 => first | assumption | ((with_reducible refine' Mx.of0 ?q91); (case' q91 => assumption))); (case' h91 => wtm_at "mo")))
local macro_rules | `(tactic| wtm_at "ne") => `(tactic| first
  | assumption
  | exact Ne.symm (by assumption)
  | ((with_reducible refine' ne_of_none ?x94 ?y94); (case' y94 => assumption); (case' x94 => wtm_at "hp"))
  | ((with_reducible refine' Ne.symm (ne_of_none ?x95 ?y95)); (case' y95 => assumption); (case' x95 => wtm_at "hp")))
local macro_rules | `(tactic| wtm_at "nin") => `(tactic| first
  | assumption
  | exact List.not_mem_nil
  | ((with_reducible refine' List.not_mem_cons_of_ne_of_not_mem ?h98 ?t98); (case' h98 => wtm_at "ne"); (case' t98 => wtm_at "nin")))
local macro_rules | `(tactic| wtm_at "g1") => `(tactic| first
  | ((with_reducible refine' g_var ?h11 ?k11); (case' h11 => exact rfl))
  | with_reducible refine' g_c ?_
  | with_reducible refine' g_op ?_
  | with_reducible refine' g_I0 ?_
  | ((with_reducible refine' g_I ?c12 ?k12); (case' c12 => wtm_at "ar"))
  | with_reducible refine' g_cons ?_
  | with_reducible refine' g_nil ?_
  | with_reducible refine' g_seq ?_
  | with_reducible refine' g_asg ?_
  | with_reducible refine' g_name ?_
  | with_reducible refine' g_ret ?_
  | with_reducible refine' g_if ?_
  | with_reducible refine' g_test ?_
  | with_reducible refine' g_tB ?_
  | with_reducible refine' g_bl ?_
  | ((with_reducible refine' g_eq ?h13 ?k13); (case' h13 => exact rfl))
  | ((with_reducible refine' g_ne ?h14 ?k14); (case' h14 => exact rfl))
  | with_reducible refine' g_CB ?_
  | with_reducible refine' g_call ?_
  | with_reducible refine' g_drop ?_
  | with_reducible refine' g_next ?_
  | with_reducible refine' g_not ?_
  | with_reducible refine' g_and ?_
  | with_reducible refine' g_or ?_
  | with_reducible refine' g_un ?_
  | with_reducible refine' g_U ?_
  | with_reducible refine' g_tup ?_
  | with_reducible refine' g_lst ?_
  | ((with_reducible refine' g_kNew ?h15 ?k15); (case' h15 => wtm_at "ln"); (case' k15 => intro _ _ _ _ _))
  | ((with_reducible refine' g_ixL ?h16 ?a16 ?k16); (case' h16 => wtm_at "sl"); (case' a16 => wtm_at "at"))
  | ((with_reducible refine' g_ixT ?h17 ?a17 ?k17); (case' h17 => wtm_at "st"); (case' a17 => wtm_at "at"))
  | with_reducible refine' g_slice ?_
  | with_reducible refine' g_part ?_
  | with_reducible refine' g_kPart ?_
  | with_reducible refine' g_noPart ?_
  | ((with_reducible refine' g_slL ?h18 ?k18); (case' h18 => wtm_at "sl"); (case' k18 => intro _ _ _ _ _))
  | ((with_reducible refine' g_cat ?h119 ?h219 ?l19 ?k19); (case' h119 => wtm_at "hp"); (case' h219 => wtm_at "hp"); (case' l19 => wtm_at "ln"); (case' k19 => intro _ _ _ _ _))
  | ((with_reducible refine' g_rep ?h120 ?h220 ?h320 ?l20 ?k20); (case' h120 => wtm_at "hp"); (case' h220 => wtm_at "ln"); (case' h320 => wtm_at "ln"); (case' l20 => wtm_at "ln"); (case' k20 => intro _ _ _ _ _))
  | ((with_reducible refine' g_append ?h21 ?l21 ?k21); (case' h21 => wtm_at "hp"); (case' l21 => wtm_at "ln"); (case' k21 => intro _ _ _))
  | ((with_reducible refine' g_kBM ?h22 ?k22); (case' h22 => wtm_at "sl"))
  | ((with_reducible refine' g_kBM0 ?h23 ?k23); (case' h23 => wtm_at "sl"))
  | ((with_reducible refine' g_kL ?h24 ?k24); (case' h24 => wtm_at "sl"))
  | ((with_reducible refine' g_kR1 ?h125 ?h225 ?k25); (case' h125 => wtm_at "ln"); (case' h225 => wtm_at "ln"))
  | ((with_reducible refine' g_kR2 ?h126 ?h226 ?h326 ?h426 ?k26); (case' h126 => wtm_at "ln"); (case' h226 => wtm_at "ln"); (case' h326 => wtm_at "ln"); (case' h426 => wtm_at "ln"))
  | ((with_reducible refine' g_lenL ?h27 ?k27); (case' h27 => wtm_at "sl"))
  | ((with_reducible refine' g_lenT ?h28 ?k28); (case' h28 => wtm_at "st"))
  | ((with_reducible refine' g_listL ?h29 ?k29); (case' h29 => wtm_at "sl"); (case' k29 => intro _ _ _ _ _))
  | ((with_reducible refine' g_tupleL ?h30 ?k30); (case' h30 => wtm_at "sl"); (case' k30 => intro _ _ _ _ _))
  | with_reducible refine' g_max ?_
  | with_reducible refine' g_min ?_
  | with_reducible refine' g_intB ?_
  | with_reducible refine' g_fld ?_
  | with_reducible refine' g_put ?_
  | with_reducible refine' g_dget ?_
  | with_reducible refine' g_isN ?_
  | with_reducible refine' g_notN ?_
  | with_reducible refine' g_ifE ?_
  | with_reducible refine' g_andV ?_
  | with_reducible refine' g_orV ?_
  | with_reducible refine' g_notV ?_
  | with_reducible refine' g_kIf ?_
  | with_reducible refine' g_chain ?_
  | with_reducible refine' g_kCh ?_
  | with_reducible refine' g_sub ?_
  | ((with_reducible refine' g_setI ?h92 ?e92 ?j92 ?k92); (case' h92 => wtm_at "hp"); (case' e92 => first | exact rfl | assumption); (case' j92 => wtm_at "ln"); (case' k92 => intro _ _ _))
  | ((with_reducible refine' g_setL ?h89 ?i89 ?k89); (case' h89 => wtm_at "hp"); (case' i89 => exact ixE rfl (by wtm_at "ln")); (case' k89 => intro _ _ _))
  | ((with_reducible refine' g_gtup ?h93 ?e93 ?k93); (case' h93 => wtm_at "st"); (case' e93 => exact rfl))
  | with_reducible refine' g_gcons ?_
  | with_reducible refine' g_gnil ?_
  | with_reducible refine' g_par ?_
  | with_reducible refine' g_kPar ?_
  | with_reducible refine' g_meth ?_
  | with_reducible refine' g_bm ?_
  | with_reducible refine' g_bm0 ?_
  | with_reducible refine' g_raise ?_
  | with_reducible refine' g_for ?_
  | with_reducible refine' g_iR1 ?_
  | with_reducible refine' g_iR2 ?_
  | with_reducible refine' g_iL ?_
  | with_reducible refine' g_lc ?_
  | with_reducible refine' g_retN ?_
  | with_reducible refine' g_no (b := false) rfl ?_
  | with_reducible refine' g_yes (b := true) rfl ?_)
local macro_rules | `(tactic| wtm_at "go") => `(tactic| repeat (wtm_at "g1"))
local macro_rules | `(tactic| wtm_at "gs") => `(tactic| repeat ((fail_if_success (with_reducible refine' g_ifE ?_)); wtm_at "g1"))
local macro_rules | `(tactic| wtm_at "gi") => `(tactic| repeat ((fail_if_success (with_reducible refine' g_if ?_)); wtm_at "g1"))
local macro_rules | `(tactic| wtm_at "gr") => `(tactic| repeat ((fail_if_success (with_reducible refine' g_ret ?_)); wtm_at "g1"))
local macro_rules | `(tactic| wtm_at "gq") => `(tactic| repeat ((fail_if_success (with_reducible refine' g_asg ?_)); wtm_at "g1"))
/-! ### what a deed is to tell -/
def topChsL (μ : Mt) (z : Cd) : List (Nat × Int) := [(3, bk μ 3 + z.a), (4, bk μ 4 + z.a), (5, bk μ 5 + 1)]
def chsOf (μ : Mt) : Dd → List (Nat × Int)
  | .stamp a => stampChs μ a
  | .back a => backChs μ a
  | .top z => topChsL μ z
  | .up => []
def toldOf (μ : Mt) : Dd → PyData
  | .stamp _ => .int (bk μ 8 + 1)
  | .back a => cdD (mkCd μ.key μ.num (bk μ 6 + 1) a 2)
  | .top z => .int z.a
  | .up => .none
/-- a deed gone through: what it tells, what the meter is then -/
def dueM (μ : Mt) (d : Dd) (cut : Option Nat) : PyData × Mt :=
  match d with
  | .up => if μ.up = true then (.str "Up", μ) else match owed μ with
    | none => (.bool true, { μ with up := true })
    | some s => if cut = some 0 then (.none, μ) else (.bool true, { μ with stamps := μ.stamps ++ [s], up := true })
  | d => match refR μ d with
    | some r => (.str r.word, μ)
    | none => (if (runM μ (chsOf μ d) cut).1 = true then toldOf μ d else .none, (runM μ (chsOf μ d) cut).2)
theorem dueM_ref {μ : Mt} {d : Dd} {cut : Option Nat} {r : Rf} (hd : d ≠ .up) (h : refR μ d = some r) : dueM μ d cut = (.str r.word, μ) := by
  cases d with
  | up => exact absurd rfl hd
  | stamp a => simp only [dueM, h]
  | back a => simp only [dueM, h]
  | top z => simp only [dueM, h]
theorem dueM_run {μ : Mt} {d : Dd} {cut : Option Nat} (hd : d ≠ .up) (h : refR μ d = none) : dueM μ d cut = (if (runM μ (chsOf μ d) cut).1 = true then toldOf μ d else .none, (runM μ (chsOf μ d) cut).2) := by
  cases d with
  | up => exact absurd rfl hd
  | stamp a => simp only [dueM, h]
  | back a => simp only [dueM, h]
  | top z => simp only [dueM, h]
theorem chsOf_ok (μ : Mt) (d : Dd) : Chs (chsOf μ d) := by
  cases d with
  | stamp a => exact stampChs_ok μ a
  | back a => exact backChs_ok μ a
  | top z => intro c hc; simp [chsOf, topChsL] at hc; rcases hc with rfl | rfl | rfl <;> simp
  | up => intro c hc; simp [chsOf] at hc
theorem chsOf_nd (μ : Mt) (d : Dd) : ((chsOf μ d).map (·.1)).Nodup := by
  cases d <;> simp [chsOf, stampChs, backChs, topChsL]
theorem word_ne (r : Rf) : ¬ r.word = "" := by cases r <;> decide +kernel
section
variable {P : Program} {w : World} {K : PySem.W.Frag} {mg : Str → Option Value} {base : Heap}
local macro_rules | `(tactic| wtm_at "g1") => `(tactic| first
  | ((with_reducible refine' g_fOwn (by assumption) ?h201 ?k201); (case' h201 => wtm_at "hp"))
  | ((with_reducible refine' g_fKey (by assumption) ?h202 ?k202); (case' h202 => wtm_at "hp"))
  | ((with_reducible refine' g_fMem (by assumption) ?h203 ?k203); (case' h203 => wtm_at "hp"))
  | ((with_reducible refine' g_fPri (by assumption) ?h204 ?k204); (case' h204 => wtm_at "hp"))
  | ((with_reducible refine' g_fAwa (by assumption) ?h205 ?k205); (case' h205 => wtm_at "hp"))
  | ((with_reducible refine' g_pAwa (by assumption) ?h206 ?k206); (case' h206 => wtm_at "hp"); (case' k206 => intro _ _ _))
  | ((with_reducible refine' g_kMeth ?h207 ?l207 ?k207); (case' h207 => wtm_at "hp"); (case' l207 => exact rfl)))

local macro_rules | `(tactic| wtm_at "g1") => `(tactic| first
  | ((with_reducible refine' g_dNum ?h311 ?k311); (case' h311 => wtm_at "hp"))
  | ((with_reducible refine' g_dKey ?h312 ?k312); (case' h312 => wtm_at "hp"))
  | ((with_reducible refine' g_dCe ?h313 ?k313); (case' h313 => wtm_at "hp"))
  | ((with_reducible refine' g_dSt ?h314 ?k314); (case' h314 => wtm_at "hp"))
  | ((with_reducible refine' g_dUp ?h315 ?k315); (case' h315 => wtm_at "hp"))
  | ((with_reducible refine' g_kDGetS ?h301 ?l301 ?k301); (case' h301 => wtm_at "hp"); (case' l301 => exact rfl))
  | (with_reducible refine' g_dput ?_)
  | (with_reducible refine' g_iK ?_)
  | ((with_reducible refine' g_disp ?k305); (case' k305 => intro _ _ _ _ _))
  | (with_reducible refine' g_pcons ?_)
  | (with_reducible refine' g_pnil ?_)
  | ((with_reducible refine' g_kDisp ?h306 ?e306 ?f306 ?l306 ?k306); (case' h306 => wtm_at "hp"); (case' e306 => exact rfl); (case' f306 => exact rfl); (case' l306 => wtm_at "ln"); (case' k306 => intro _ _ _))
  | ((with_reducible refine' g_pUp ?h302 ?k302); (case' h302 => wtm_at "hp"); (case' k302 => intro _ _ _))
  | ((with_reducible refine' g_pSt ?h303 ?k303); (case' h303 => wtm_at "hp"); (case' k303 => intro _ _ _))
  | ((with_reducible refine' g_pCe ?h304 ?k304); (case' h304 => wtm_at "hp"); (case' k304 => intro _ _ _)))

def spLDue : Sp := fun vs H Q _ => ∃ (q qc qs t : Addr) (μ : Mt) (d : Dd) (cut : Option Nat), vs = [.ref q, .ref t, cutO cut] ∧ LmAt K H q qc qs μ ∧ Any μ.cells ∧ Sm μ ∧ μ.stamps.length < 1000 ∧ DdAt H t d ∧
  ∀ v qs' H', (qs' = qs ∨ H qs' = none) → Mx [q, qc, qs] H H' → LmAt K H' q qc qs' (dueM μ d cut).2 → Dp K H' v (dueM μ d cut).1 → Q v H'
end
end Fk
namespace Fk
open PySem PySem.Spec PyProof.Rows L2
local macro_rules | `(tactic| wtm_at "ln") => `(tactic| first
  | omega
  | (simp only [List.length_cons, List.length_nil, List.length_map, List.length_append, List.length_replicate, List.length_take, List.length_drop, List.length_set]; omega)
  | (with_unfolding_all exact (by decide)))
local macro_rules | `(tactic| wtm_at "ar") => `(tactic| first
  | ((with_reducible show CMulW _ _); (refine' mulS ?_ ?_ <;> omega))
  | ((with_reducible show CDivW _ _); (refine' divS ?_ ?_ <;> omega))
  | ((with_reducible show CPow _ _); exact ⟨by decide, by decide, by decide⟩)
  | (show (0 : Int) < _; omega)
  | (with_unfolding_all exact (by decide)))
local macro_rules | `(tactic| wtm_at "at") => `(tactic| first
  | assumption
  | (refine' cl_atE ?e80 ?h80; (case' e80 => first | exact rfl | assumption); (case' h80 => wtm_at "ln"))
  | exact rfl)
local macro_rules | `(tactic| wtm_at "fr") => `(tactic| first
  | assumption
  | ((with_reducible refine' Mx.free0 ?m99 ?h99); (case' h99 => assumption); (case' m99 => wtm_at "mo")))
local macro_rules | `(tactic| wtm_at "hp") => `(tactic| first
  | assumption
  | ((with_reducible refine' Mx.get0 ?m1 ?h1); (case' m1 => assumption); (case' h1 => wtm_at "hp"))
  | ((with_reducible refine' Mx.get ?m2 ?n2 ?h2); (case' m2 => assumption); (case' n2 => wtm_at "nin"); (case' h2 => wtm_at "hp")))
local macro_rules | `(tactic| wtm_at "sl") => `(tactic| first
  | assumption
  | ((with_reducible refine' Mx.sqL0 ?m96 ?h96); (case' h96 => assumption); (case' m96 => wtm_at "mo"))
  | (refine' SqL.of ?h3; (case' h3 => wtm_at "hp"))
  | ((with_reducible refine' Mx.sqL0 ?m4 ?h4); (case' m4 => assumption); (case' h4 => wtm_at "sl"))
  | ((with_reducible refine' Mx.sqL ?m5 ?n5 ?h5); (case' m5 => assumption); (case' n5 => wtm_at "nin"); (case' h5 => wtm_at "sl")))
local macro_rules | `(tactic| wtm_at "st") => `(tactic| first
  | assumption
  | ((with_reducible refine' Mx.sqT0 ?m97 ?h97); (case' h97 => assumption); (case' m97 => wtm_at "mo"))
  | (refine' SqT.of ?h6; (case' h6 => wtm_at "hp"))
  | ((with_reducible refine' Mx.sqT0 ?m7 ?h7); (case' m7 => assumption); (case' h7 => wtm_at "st"))
  | ((with_reducible refine' Mx.sqT ?m8 ?n8 ?h8); (case' m8 => assumption); (case' n8 => wtm_at "nin"); (case' h8 => wtm_at "st")))
local macro_rules | `(tactic| wtm_at "mx") => `(tactic| first
  | assumption
  | exact Mx.refl
  | ((with_reducible refine' Mx.of0 ?h9); (case' h9 => assumption))
  | ((with_reducible refine' Mx.trans ?h10 ?m10); (case' m10 => first | assumption | ((with_reducible refine' Mx.of0 ?q10); (case' q10 => assumption))); (case' h10 => wtm_at "mx")))
local macro_rules | `(tactic| wtm_at "mo") => `(tactic| first
  | wtm_at "mx"
  | ((with_reducible refine' Mx.own ?m90 ?f90 ?k90); (case' k90 => assumption); (case' f90 => wtm_at "fr"); (case' m90 => wtm_at "mo"))
  | ((with_reducible refine' Mx.trans ?h91 ?m91); (case' m91 => first | assumption | ((with_reducible refine' Mx.of0 ?q91); (case' q91 => assumption))); (case' h91 => wtm_at "mo")))
local macro_rules | `(tactic| wtm_at "ne") => `(tactic| first
  | assumption
  | exact Ne.symm (by assumption)
  | ((with_reducible refine' ne_of_none ?x94 ?y94); (case' y94 => assumption); (case' x94 => wtm_at "hp"))
  | ((with_reducible refine' Ne.symm (ne_of_none ?x95 ?y95)); (case' y95 => assumption); (case' x95 => wtm_at "hp")))
local macro_rules | `(tactic| wtm_at "nin") => `(tactic| first
  | assumption
  | exact List.not_mem_nil
  | ((with_reducible refine' List.not_mem_cons_of_ne_of_not_mem ?h98 ?t98); (case' h98 => wtm_at "ne"); (case' t98 => wtm_at "nin")))
local macro_rules | `(tactic| wtm_at "g1") => `(tactic| first
  | ((with_reducible refine' g_var ?h11 ?k11); (case' h11 => exact rfl))
  | with_reducible refine' g_c ?_
  | with_reducible refine' g_op ?_
  | with_reducible refine' g_I0 ?_
  | ((with_reducible refine' g_I ?c12 ?k12); (case' c12 => wtm_at "ar"))
  | with_reducible refine' g_cons ?_
  | with_reducible refine' g_nil ?_
  | with_reducible refine' g_seq ?_
  | with_reducible refine' g_asg ?_
  | with_reducible refine' g_name ?_
  | with_reducible refine' g_ret ?_
  | with_reducible refine' g_if ?_
  | with_reducible refine' g_test ?_
  | with_reducible refine' g_tB ?_
  | with_reducible refine' g_bl ?_
  | ((with_reducible refine' g_eq ?h13 ?k13); (case' h13 => exact rfl))
  | ((with_reducible refine' g_ne ?h14 ?k14); (case' h14 => exact rfl))
  | with_reducible refine' g_CB ?_
  | with_reducible refine' g_call ?_
  | with_reducible refine' g_drop ?_
  | with_reducible refine' g_next ?_
  | with_reducible refine' g_not ?_
  | with_reducible refine' g_and ?_
  | with_reducible refine' g_or ?_
  | with_reducible refine' g_un ?_
  | with_reducible refine' g_U ?_
  | with_reducible refine' g_tup ?_
  | with_reducible refine' g_lst ?_
  | ((with_reducible refine' g_kNew ?h15 ?k15); (case' h15 => wtm_at "ln"); (case' k15 => intro _ _ _ _ _))
  | ((with_reducible refine' g_ixL ?h16 ?a16 ?k16); (case' h16 => wtm_at "sl"); (case' a16 => wtm_at "at"))
  | ((with_reducible refine' g_ixT ?h17 ?a17 ?k17); (case' h17 => wtm_at "st"); (case' a17 => wtm_at "at"))
  | with_reducible refine' g_slice ?_
  | with_reducible refine' g_part ?_
  | with_reducible refine' g_kPart ?_
  | with_reducible refine' g_noPart ?_
  | ((with_reducible refine' g_slL ?h18 ?k18); (case' h18 => wtm_at "sl"); (case' k18 => intro _ _ _ _ _))
  | ((with_reducible refine' g_cat ?h119 ?h219 ?l19 ?k19); (case' h119 => wtm_at "hp"); (case' h219 => wtm_at "hp"); (case' l19 => wtm_at "ln"); (case' k19 => intro _ _ _ _ _))
  | ((with_reducible refine' g_rep ?h120 ?h220 ?h320 ?l20 ?k20); (case' h120 => wtm_at "hp"); (case' h220 => wtm_at "ln"); (case' h320 => wtm_at "ln"); (case' l20 => wtm_at "ln"); (case' k20 => intro _ _ _ _ _))
  | ((with_reducible refine' g_append ?h21 ?l21 ?k21); (case' h21 => wtm_at "hp"); (case' l21 => wtm_at "ln"); (case' k21 => intro _ _ _))
  | ((with_reducible refine' g_kBM ?h22 ?k22); (case' h22 => wtm_at "sl"))
  | ((with_reducible refine' g_kBM0 ?h23 ?k23); (case' h23 => wtm_at "sl"))
  | ((with_reducible refine' g_kL ?h24 ?k24); (case' h24 => wtm_at "sl"))
  | ((with_reducible refine' g_kR1 ?h125 ?h225 ?k25); (case' h125 => wtm_at "ln"); (case' h225 => wtm_at "ln"))
  | ((with_reducible refine' g_kR2 ?h126 ?h226 ?h326 ?h426 ?k26); (case' h126 => wtm_at "ln"); (case' h226 => wtm_at "ln"); (case' h326 => wtm_at "ln"); (case' h426 => wtm_at "ln"))
  | ((with_reducible refine' g_lenL ?h27 ?k27); (case' h27 => wtm_at "sl"))
  | ((with_reducible refine' g_lenT ?h28 ?k28); (case' h28 => wtm_at "st"))
  | ((with_reducible refine' g_listL ?h29 ?k29); (case' h29 => wtm_at "sl"); (case' k29 => intro _ _ _ _ _))
  | ((with_reducible refine' g_tupleL ?h30 ?k30); (case' h30 => wtm_at "sl"); (case' k30 => intro _ _ _ _ _))
  | with_reducible refine' g_max ?_
  | with_reducible refine' g_min ?_
  | with_reducible refine' g_intB ?_
  | with_reducible refine' g_fld ?_
  | with_reducible refine' g_put ?_
  | with_reducible refine' g_dget ?_
  | with_reducible refine' g_isN ?_
  | with_reducible refine' g_notN ?_
  | with_reducible refine' g_ifE ?_
  | with_reducible refine' g_andV ?_
  | with_reducible refine' g_orV ?_
  | with_reducible refine' g_notV ?_
  | with_reducible refine' g_kIf ?_
  | with_reducible refine' g_chain ?_
  | with_reducible refine' g_kCh ?_
  | with_reducible refine' g_sub ?_
  | ((with_reducible refine' g_setI ?h92 ?e92 ?j92 ?k92); (case' h92 => wtm_at "hp"); (case' e92 => first | exact rfl | assumption); (case' j92 => wtm_at "ln"); (case' k92 => intro _ _ _))
  | ((with_reducible refine' g_setL ?h89 ?i89 ?k89); (case' h89 => wtm_at "hp"); (case' i89 => exact ixE rfl (by wtm_at "ln")); (case' k89 => intro _ _ _))
  | ((with_reducible refine' g_gtup ?h93 ?e93 ?k93); (case' h93 => wtm_at "st"); (case' e93 => exact rfl))
  | with_reducible refine' g_gcons ?_
  | with_reducible refine' g_gnil ?_
  | with_reducible refine' g_par ?_
  | with_reducible refine' g_kPar ?_
  | with_reducible refine' g_meth ?_
  | with_reducible refine' g_bm ?_
  | with_reducible refine' g_bm0 ?_
  | with_reducible refine' g_raise ?_
  | with_reducible refine' g_for ?_
  | with_reducible refine' g_iR1 ?_
  | with_reducible refine' g_iR2 ?_
  | with_reducible refine' g_iL ?_
  | with_reducible refine' g_lc ?_
  | with_reducible refine' g_retN ?_
  | with_reducible refine' g_no (b := false) rfl ?_
  | with_reducible refine' g_yes (b := true) rfl ?_)
local macro_rules | `(tactic| wtm_at "go") => `(tactic| repeat (wtm_at "g1"))
local macro_rules | `(tactic| wtm_at "gs") => `(tactic| repeat ((fail_if_success (with_reducible refine' g_ifE ?_)); wtm_at "g1"))
local macro_rules | `(tactic| wtm_at "gi") => `(tactic| repeat ((fail_if_success (with_reducible refine' g_if ?_)); wtm_at "g1"))
local macro_rules | `(tactic| wtm_at "gr") => `(tactic| repeat ((fail_if_success (with_reducible refine' g_ret ?_)); wtm_at "g1"))
local macro_rules | `(tactic| wtm_at "gq") => `(tactic| repeat ((fail_if_success (with_reducible refine' g_asg ?_)); wtm_at "g1"))
/-! ### the same -/
mutual
/-- no dict within, no long list -/
def okD : PyData → Bool
  | .none | .bool _ | .int _ | .str _ => true
  | .list xs => okDs xs && decide (xs.length ≤ 40000)
  | .tuple xs => okDs xs && decide (xs.length ≤ 40000)
  | .dict _ => false
def okDs : List PyData → Bool
  | [] => true
  | x :: xs => okD x && okDs xs
end
theorem okDs_get : ∀ {xs : List PyData} {i : Nat} {d : PyData}, okDs xs = true → xs[i]? = some d → okD d = true
  | [], _, _, _, e => by simp at e
  | x :: xs, 0, d, h, e => by
    simp [okDs] at h; simp at e; subst e; exact h.1
  | x :: xs, i + 1, d, h, e => by
    simp [okDs] at h
    exact okDs_get h.2 (by simpa using e)
theorem depth_get : ∀ {xs : List PyData} {i : Nat} {d : PyData}, xs[i]? = some d → d.depth ≤ PyData.depthAll xs
  | [], _, _, e => by simp at e
  | x :: xs, 0, d, e => by
    simp at e; subst e
    rw [PyData.depthAll]
    exact Nat.le_max_left _ _
  | x :: xs, i + 1, d, e => by
    rw [PyData.depthAll]
    exact Nat.le_trans (depth_get (by simpa using e)) (Nat.le_max_right _ _)
theorem fm_none {n : Nat} : (List.range n).filterMap (fun _ => (none : Option V)) = [] := by
  induction n with
  | zero => rfl
  | succ n ih => rw [List.range_succ, List.filterMap_append, ih]; rfl
section
variable {P : Program} {w : World} {K : PySem.W.Frag} {mg : Str → Option Value} {base : Heap}
local macro_rules | `(tactic| wtm_at "g1") => `(tactic| first
  | ((with_reducible refine' g_fOwn (by assumption) ?h201 ?k201); (case' h201 => wtm_at "hp"))
  | ((with_reducible refine' g_fKey (by assumption) ?h202 ?k202); (case' h202 => wtm_at "hp"))
  | ((with_reducible refine' g_fMem (by assumption) ?h203 ?k203); (case' h203 => wtm_at "hp"))
  | ((with_reducible refine' g_fPri (by assumption) ?h204 ?k204); (case' h204 => wtm_at "hp"))
  | ((with_reducible refine' g_fAwa (by assumption) ?h205 ?k205); (case' h205 => wtm_at "hp"))
  | ((with_reducible refine' g_pAwa (by assumption) ?h206 ?k206); (case' h206 => wtm_at "hp"); (case' k206 => intro _ _ _))
  | ((with_reducible refine' g_kMeth ?h207 ?l207 ?k207); (case' h207 => wtm_at "hp"); (case' l207 => exact rfl)))

local macro_rules | `(tactic| wtm_at "g1") => `(tactic| first
  | ((with_reducible refine' g_dNum ?h311 ?k311); (case' h311 => wtm_at "hp"))
  | ((with_reducible refine' g_dKey ?h312 ?k312); (case' h312 => wtm_at "hp"))
  | ((with_reducible refine' g_dCe ?h313 ?k313); (case' h313 => wtm_at "hp"))
  | ((with_reducible refine' g_dSt ?h314 ?k314); (case' h314 => wtm_at "hp"))
  | ((with_reducible refine' g_dUp ?h315 ?k315); (case' h315 => wtm_at "hp"))
  | ((with_reducible refine' g_kDGetS ?h301 ?l301 ?k301); (case' h301 => wtm_at "hp"); (case' l301 => exact rfl))
  | (with_reducible refine' g_dput ?_)
  | (with_reducible refine' g_iK ?_)
  | ((with_reducible refine' g_disp ?k305); (case' k305 => intro _ _ _ _ _))
  | (with_reducible refine' g_pcons ?_)
  | (with_reducible refine' g_pnil ?_)
  | ((with_reducible refine' g_kDisp ?h306 ?e306 ?f306 ?l306 ?k306); (case' h306 => wtm_at "hp"); (case' e306 => exact rfl); (case' f306 => exact rfl); (case' l306 => wtm_at "ln"); (case' k306 => intro _ _ _))
  | ((with_reducible refine' g_pUp ?h302 ?k302); (case' h302 => wtm_at "hp"); (case' k302 => intro _ _ _))
  | ((with_reducible refine' g_pSt ?h303 ?k303); (case' h303 => wtm_at "hp"); (case' k303 => intro _ _ _))
  | ((with_reducible refine' g_pCe ?h304 ?k304); (case' h304 => wtm_at "hp"); (case' k304 => intro _ _ _)))

local macro_rules | `(tactic| wtm_at "dp") => `(tactic| first
  | assumption
  | ((with_reducible refine' Dp.mx ?m411 ?h411); (case' h411 => assumption); (case' m411 => wtm_at "mo")))
local macro_rules | `(tactic| wtm_at "kk") => `(tactic| first | exact kk_NoneType_tuple | exact kk_NoneType_list | exact kk_NoneType_str | exact kk_NoneType_bool | exact kk_NoneType_int | exact kk_bool_tuple | exact kk_bool_list | exact kk_bool_str | exact kk_bool_bool | exact kk_bool_int | exact kk_int_tuple | exact kk_int_list | exact kk_int_str | exact kk_int_bool | exact kk_int_int | exact kk_str_tuple | exact kk_str_list | exact kk_str_str | exact kk_str_bool | exact kk_str_int | exact kk_list_tuple | exact kk_list_list | exact kk_list_str | exact kk_list_bool | exact kk_list_int | exact kk_tuple_tuple | exact kk_tuple_list | exact kk_tuple_str | exact kk_tuple_bool | exact kk_tuple_int)
local macro_rules | `(tactic| wtm_at "ty") => `(tactic| first
  | assumption
  | ((with_reducible refine' TyX.mx ?m401 ?h401); (case' h401 => assumption); (case' m401 => wtm_at "mo")))
local macro_rules | `(tactic| wtm_at "g1") => `(tactic| first
  | ((with_reducible refine' g_isi ?t402 ?e402 ?k402); (case' t402 => wtm_at "ty"); (case' e402 => wtm_at "kk"))
  | ((with_reducible refine' g_isiT2 ?h403 ?t403 ?e403 ?f403 ?k403); (case' h403 => wtm_at "hp"); (case' t403 => wtm_at "ty"); (case' e403 => wtm_at "kk"); (case' f403 => wtm_at "kk"))
  | ((with_reducible refine' g_ixQL ?h404 ?a404 ?k404); (case' h404 => wtm_at "sl"); (case' a404 => wtm_at "at"))
  | ((with_reducible refine' g_ixQT ?h405 ?a405 ?k405); (case' h405 => wtm_at "st"); (case' a405 => wtm_at "at")))

def spSame (n : Nat) : Sp := fun vs H Q _ => ∃ (v1 v2 : V) (d : PyData), vs = [v1, v2] ∧ d.depth < n ∧ okD d = true ∧ Dp K H v1 d ∧ Dp K H v2 d ∧ ∀ H', Mx [] H H' → Q (.bl true) H'
end
end Fk
namespace Fk
open PySem PySem.Spec PyProof.Rows L2
local macro_rules | `(tactic| wtm_at "ln") => `(tactic| first
  | omega
  | (simp only [List.length_cons, List.length_nil, List.length_map, List.length_append, List.length_replicate, List.length_take, List.length_drop, List.length_set]; omega)
  | (with_unfolding_all exact (by decide)))
local macro_rules | `(tactic| wtm_at "ar") => `(tactic| first
  | ((with_reducible show CMulW _ _); (refine' mulS ?_ ?_ <;> omega))
  | ((with_reducible show CDivW _ _); (refine' divS ?_ ?_ <;> omega))
  | ((with_reducible show CPow _ _); exact ⟨by decide, by decide, by decide⟩)
  | (show (0 : Int) < _; omega)
  | (with_unfolding_all exact (by decide)))
local macro_rules | `(tactic| wtm_at "at") => `(tactic| first
  | assumption
  | (refine' cl_atE ?e80 ?h80; (case' e80 => first | exact rfl | assumption); (case' h80 => wtm_at "ln"))
  | exact rfl)
local macro_rules | `(tactic| wtm_at "fr") => `(tactic| first
  | assumption
  | ((with_reducible refine' Mx.free0 ?m99 ?h99); (case' h99 => assumption); (case' m99 => wtm_at "mo")))
local macro_rules | `(tactic| wtm_at "hp") => `(tactic| first
  | assumption
  | ((with_reducible refine' Mx.get0 ?m1 ?h1); (case' m1 => assumption); (case' h1 => wtm_at "hp"))
  | ((with_reducible refine' Mx.get ?m2 ?n2 ?h2); (case' m2 => assumption); (case' n2 => wtm_at "nin"); (case' h2 => wtm_at "hp")))
local macro_rules | `(tactic| wtm_at "sl") => `(tactic| first
  | assumption
  | ((with_reducible refine' Mx.sqL0 ?m96 ?h96); (case' h96 => assumption); (case' m96 => wtm_at "mo"))
  | (refine' SqL.of ?h3; (case' h3 => wtm_at "hp"))
  | ((with_reducible refine' Mx.sqL0 ?m4 ?h4); (case' m4 => assumption); (case' h4 => wtm_at "sl"))
  | ((with_reducible refine' Mx.sqL ?m5 ?n5 ?h5); (case' m5 => assumption); (case' n5 => wtm_at "nin"); (case' h5 => wtm_at "sl")))
local macro_rules | `(tactic| wtm_at "st") => `(tactic| first
  | assumption
  | ((with_reducible refine' Mx.sqT0 ?m97 ?h97); (case' h97 => assumption); (case' m97 => wtm_at "mo"))
  | (refine' SqT.of ?h6; (case' h6 => wtm_at "hp"))
  | ((with_reducible refine' Mx.sqT0 ?m7 ?h7); (case' m7 => assumption); (case' h7 => wtm_at "st"))
  | ((with_reducible refine' Mx.sqT ?m8 ?n8 ?h8); (case' m8 => assumption); (case' n8 => wtm_at "nin"); (case' h8 => wtm_at "st")))
local macro_rules | `(tactic| wtm_at "mx") => `(tactic| first
  | assumption
  | exact Mx.refl
  | ((with_reducible refine' Mx.of0 ?h9); (case' h9 => assumption))
  | ((with_reducible refine' Mx.trans ?h10 ?m10); (case' m10 => first | assumption | ((with_reducible refine' Mx.of0 ?q10); (case' q10 => assumption))); (case' h10 => wtm_at "mx")))
local macro_rules | `(tactic| wtm_at "mo") => `(tactic| first
  | wtm_at "mx"
  | ((with_reducible refine' Mx.own ?m90 ?f90 ?k90); (case' k90 => assumption); (case' f90 => wtm_at "fr"); (case' m90 => wtm_at "mo"))
  | ((with_reducible refine' Mx.trans ?h91 ?m91); (case' m91 => first | assumption | ((with_reducible refine' Mx.of0 ?q91); (case' q91 => assumption))); (case' h91 => wtm_at "mo")))
local macro_rules | `(tactic| wtm_at "ne") => `(tactic| first
  | assumption
  | exact Ne.symm (by assumption)
  | ((with_reducible refine' ne_of_none ?x94 ?y94); (case' y94 => assumption); (case' x94 => wtm_at "hp"))
  | ((with_reducible refine' Ne.symm (ne_of_none ?x95 ?y95)); (case' y95 => assumption); (case' x95 => wtm_at "hp")))
local macro_rules | `(tactic| wtm_at "nin") => `(tactic| first
  | assumption
  | exact List.not_mem_nil
  | ((with_reducible refine' List.not_mem_cons_of_ne_of_not_mem ?h98 ?t98); (case' h98 => wtm_at "ne"); (case' t98 => wtm_at "nin")))
local macro_rules | `(tactic| wtm_at "g1") => `(tactic| first
  | ((with_reducible refine' g_var ?h11 ?k11); (case' h11 => exact rfl))
  | with_reducible refine' g_c ?_
  | with_reducible refine' g_op ?_
  | with_reducible refine' g_I0 ?_
  | ((with_reducible refine' g_I ?c12 ?k12); (case' c12 => wtm_at "ar"))
  | with_reducible refine' g_cons ?_
  | with_reducible refine' g_nil ?_
  | with_reducible refine' g_seq ?_
  | with_reducible refine' g_asg ?_
  | with_reducible refine' g_name ?_
  | with_reducible refine' g_ret ?_
  | with_reducible refine' g_if ?_
  | with_reducible refine' g_test ?_
  | with_reducible refine' g_tB ?_
  | with_reducible refine' g_bl ?_
  | ((with_reducible refine' g_eq ?h13 ?k13); (case' h13 => exact rfl))
  | ((with_reducible refine' g_ne ?h14 ?k14); (case' h14 => exact rfl))
  | with_reducible refine' g_CB ?_
  | with_reducible refine' g_call ?_
  | with_reducible refine' g_drop ?_
  | with_reducible refine' g_next ?_
  | with_reducible refine' g_not ?_
  | with_reducible refine' g_and ?_
  | with_reducible refine' g_or ?_
  | with_reducible refine' g_un ?_
  | with_reducible refine' g_U ?_
  | with_reducible refine' g_tup ?_
  | with_reducible refine' g_lst ?_
  | ((with_reducible refine' g_kNew ?h15 ?k15); (case' h15 => wtm_at "ln"); (case' k15 => intro _ _ _ _ _))
  | ((with_reducible refine' g_ixL ?h16 ?a16 ?k16); (case' h16 => wtm_at "sl"); (case' a16 => wtm_at "at"))
  | ((with_reducible refine' g_ixT ?h17 ?a17 ?k17); (case' h17 => wtm_at "st"); (case' a17 => wtm_at "at"))
  | with_reducible refine' g_slice ?_
  | with_reducible refine' g_part ?_
  | with_reducible refine' g_kPart ?_
  | with_reducible refine' g_noPart ?_
  | ((with_reducible refine' g_slL ?h18 ?k18); (case' h18 => wtm_at "sl"); (case' k18 => intro _ _ _ _ _))
  | ((with_reducible refine' g_cat ?h119 ?h219 ?l19 ?k19); (case' h119 => wtm_at "hp"); (case' h219 => wtm_at "hp"); (case' l19 => wtm_at "ln"); (case' k19 => intro _ _ _ _ _))
  | ((with_reducible refine' g_rep ?h120 ?h220 ?h320 ?l20 ?k20); (case' h120 => wtm_at "hp"); (case' h220 => wtm_at "ln"); (case' h320 => wtm_at "ln"); (case' l20 => wtm_at "ln"); (case' k20 => intro _ _ _ _ _))
  | ((with_reducible refine' g_append ?h21 ?l21 ?k21); (case' h21 => wtm_at "hp"); (case' l21 => wtm_at "ln"); (case' k21 => intro _ _ _))
  | ((with_reducible refine' g_kBM ?h22 ?k22); (case' h22 => wtm_at "sl"))
  | ((with_reducible refine' g_kBM0 ?h23 ?k23); (case' h23 => wtm_at "sl"))
  | ((with_reducible refine' g_kL ?h24 ?k24); (case' h24 => wtm_at "sl"))
  | ((with_reducible refine' g_kR1 ?h125 ?h225 ?k25); (case' h125 => wtm_at "ln"); (case' h225 => wtm_at "ln"))
  | ((with_reducible refine' g_kR2 ?h126 ?h226 ?h326 ?h426 ?k26); (case' h126 => wtm_at "ln"); (case' h226 => wtm_at "ln"); (case' h326 => wtm_at "ln"); (case' h426 => wtm_at "ln"))
  | ((with_reducible refine' g_lenL ?h27 ?k27); (case' h27 => wtm_at "sl"))
  | ((with_reducible refine' g_lenT ?h28 ?k28); (case' h28 => wtm_at "st"))
  | ((with_reducible refine' g_listL ?h29 ?k29); (case' h29 => wtm_at "sl"); (case' k29 => intro _ _ _ _ _))
  | ((with_reducible refine' g_tupleL ?h30 ?k30); (case' h30 => wtm_at "sl"); (case' k30 => intro _ _ _ _ _))
  | with_reducible refine' g_max ?_
  | with_reducible refine' g_min ?_
  | with_reducible refine' g_intB ?_
  | with_reducible refine' g_fld ?_
  | with_reducible refine' g_put ?_
  | with_reducible refine' g_dget ?_
  | with_reducible refine' g_isN ?_
  | with_reducible refine' g_notN ?_
  | with_reducible refine' g_ifE ?_
  | with_reducible refine' g_andV ?_
  | with_reducible refine' g_orV ?_
  | with_reducible refine' g_notV ?_
  | with_reducible refine' g_kIf ?_
  | with_reducible refine' g_chain ?_
  | with_reducible refine' g_kCh ?_
  | with_reducible refine' g_sub ?_
  | ((with_reducible refine' g_setI ?h92 ?e92 ?j92 ?k92); (case' h92 => wtm_at "hp"); (case' e92 => first | exact rfl | assumption); (case' j92 => wtm_at "ln"); (case' k92 => intro _ _ _))
  | ((with_reducible refine' g_setL ?h89 ?i89 ?k89); (case' h89 => wtm_at "hp"); (case' i89 => exact ixE rfl (by wtm_at "ln")); (case' k89 => intro _ _ _))
  | ((with_reducible refine' g_gtup ?h93 ?e93 ?k93); (case' h93 => wtm_at "st"); (case' e93 => exact rfl))
  | with_reducible refine' g_gcons ?_
  | with_reducible refine' g_gnil ?_
  | with_reducible refine' g_par ?_
  | with_reducible refine' g_kPar ?_
  | with_reducible refine' g_meth ?_
  | with_reducible refine' g_bm ?_
  | with_reducible refine' g_bm0 ?_
  | with_reducible refine' g_raise ?_
  | with_reducible refine' g_for ?_
  | with_reducible refine' g_iR1 ?_
  | with_reducible refine' g_iR2 ?_
  | with_reducible refine' g_iL ?_
  | with_reducible refine' g_lc ?_
  | with_reducible refine' g_retN ?_
  | with_reducible refine' g_no (b := false) rfl ?_
  | with_reducible refine' g_yes (b := true) rfl ?_)
local macro_rules | `(tactic| wtm_at "go") => `(tactic| repeat (wtm_at "g1"))
local macro_rules | `(tactic| wtm_at "gs") => `(tactic| repeat ((fail_if_success (with_reducible refine' g_ifE ?_)); wtm_at "g1"))
local macro_rules | `(tactic| wtm_at "gi") => `(tactic| repeat ((fail_if_success (with_reducible refine' g_if ?_)); wtm_at "g1"))
local macro_rules | `(tactic| wtm_at "gr") => `(tactic| repeat ((fail_if_success (with_reducible refine' g_ret ?_)); wtm_at "g1"))
local macro_rules | `(tactic| wtm_at "gq") => `(tactic| repeat ((fail_if_success (with_reducible refine' g_asg ?_)); wtm_at "g1"))
/-! ### a deed done, a deed drawn -/
def doesR (μ : Mt) : Dd → Option Rf
  | .up => if μ.up = true then some .up else none
  | d => refR μ d
def doesM (μ : Mt) (d : Dd) (cut : Option Nat) : PyData × Mt :=
  match d with
  | .up => upM μ cut
  | .stamp a => stampM μ a cut
  | .back a => backM μ a cut
  | .top z => topM μ z cut
theorem StAt.new {K : PySem.W.Frag} {H0 H : Hp} {r l : Addr} (s : StAt K H0 H r) (h : H l = none) : l ≠ r := by
  rintro rfl
  obtain ⟨_, _, _, _, _, e, _⟩ := s.ex
  rw [h] at e
  cases e
/-- a deed as it is drawn for a meter -/
def DdGood (μ : Mt) (d : Dd) : Prop := d = .up ∨ ∃ a, (1 ≤ a ∧ a ≤ 99999) ∧ (d = .stamp a ∨ d = .back a ∨ d = .top (mkCd μ.key μ.num (bk μ 5 + 1) a 1))
section
variable {P : Program} {w : World} {K : PySem.W.Frag} {mg : Str → Option Value} {base : Heap}
local macro_rules | `(tactic| wtm_at "g1") => `(tactic| first
  | ((with_reducible refine' g_fOwn (by assumption) ?h201 ?k201); (case' h201 => wtm_at "hp"))
  | ((with_reducible refine' g_fKey (by assumption) ?h202 ?k202); (case' h202 => wtm_at "hp"))
  | ((with_reducible refine' g_fMem (by assumption) ?h203 ?k203); (case' h203 => wtm_at "hp"))
  | ((with_reducible refine' g_fPri (by assumption) ?h204 ?k204); (case' h204 => wtm_at "hp"))
  | ((with_reducible refine' g_fAwa (by assumption) ?h205 ?k205); (case' h205 => wtm_at "hp"))
  | ((with_reducible refine' g_pAwa (by assumption) ?h206 ?k206); (case' h206 => wtm_at "hp"); (case' k206 => intro _ _ _))
  | ((with_reducible refine' g_kMeth ?h207 ?l207 ?k207); (case' h207 => wtm_at "hp"); (case' l207 => exact rfl)))

local macro_rules | `(tactic| wtm_at "g1") => `(tactic| first
  | ((with_reducible refine' g_dNum ?h311 ?k311); (case' h311 => wtm_at "hp"))
  | ((with_reducible refine' g_dKey ?h312 ?k312); (case' h312 => wtm_at "hp"))
  | ((with_reducible refine' g_dCe ?h313 ?k313); (case' h313 => wtm_at "hp"))
  | ((with_reducible refine' g_dSt ?h314 ?k314); (case' h314 => wtm_at "hp"))
  | ((with_reducible refine' g_dUp ?h315 ?k315); (case' h315 => wtm_at "hp"))
  | ((with_reducible refine' g_kDGetS ?h301 ?l301 ?k301); (case' h301 => wtm_at "hp"); (case' l301 => exact rfl))
  | (with_reducible refine' g_dput ?_)
  | (with_reducible refine' g_iK ?_)
  | ((with_reducible refine' g_disp ?k305); (case' k305 => intro _ _ _ _ _))
  | (with_reducible refine' g_pcons ?_)
  | (with_reducible refine' g_pnil ?_)
  | ((with_reducible refine' g_kDisp ?h306 ?e306 ?f306 ?l306 ?k306); (case' h306 => wtm_at "hp"); (case' e306 => exact rfl); (case' f306 => exact rfl); (case' l306 => wtm_at "ln"); (case' k306 => intro _ _ _))
  | ((with_reducible refine' g_pUp ?h302 ?k302); (case' h302 => wtm_at "hp"); (case' k302 => intro _ _ _))
  | ((with_reducible refine' g_pSt ?h303 ?k303); (case' h303 => wtm_at "hp"); (case' k303 => intro _ _ _))
  | ((with_reducible refine' g_pCe ?h304 ?k304); (case' h304 => wtm_at "hp"); (case' k304 => intro _ _ _)))

def spDoes (T : Tx K mg) : Sp := fun vs H Q E => ∃ (p pm pp t : Addr) (μ : Mt) (d : Dd) (cut : Option Nat), vs = [.ref p, .ref t, cutO cut] ∧ MetAt K T.C_Meter H p pm pp μ ∧ Any μ.cells ∧ Sm μ ∧ μ.stamps.length < 1000 ∧ DdAt H t d ∧
  (∀ r, doesR μ d = some r → ∀ H', Mx [] H H' → E (.ref (r.at T)) none H') ∧ (doesR μ d = none → ∀ v H', Mx [p, pm, pp] H H' → MetAt K T.C_Meter H' p pm pp (doesM μ d cut).2 → Dp K H' v (doesM μ d cut).1 → Q v H')
/-- a cut, mostly none -/
def spCut : Sp := fun vs H Q _ => ∃ (H0 : Hp) (r : Addr), vs = [.ref r] ∧ StAt K H0 H r ∧ ∀ (c : Option Nat) H', (∀ k, c = some k → k < 14) → Mx [r] H H' → StAt K H0 H' r → Q (cutO c) H'
/-- a deed that may be done, mostly -/
def spDeed : Sp := fun vs H Q _ => ∃ (H0 : Hp) (r q qc qs : Addr) (μ : Mt), vs = [.ref r, .ref q] ∧ StAt K H0 H r ∧ LmAt K H q qc qs μ ∧ Any μ.cells ∧ Sm μ ∧ r ≠ q ∧ r ≠ qc ∧ r ≠ qs ∧
  ∀ t d H', DdGood μ d → Mx [r] H H' → StAt K H0 H' r → H t = none → DdAt H' t d → Q (.ref t) H'
end
end Fk
namespace Fk
open PySem PySem.Spec PyProof.Rows L2
local macro_rules | `(tactic| wtm_at "ln") => `(tactic| first
  | omega
  | (simp only [List.length_cons, List.length_nil, List.length_map, List.length_append, List.length_replicate, List.length_take, List.length_drop, List.length_set]; omega)
  | (with_unfolding_all exact (by decide)))
local macro_rules | `(tactic| wtm_at "ar") => `(tactic| first
  | ((with_reducible show CMulW _ _); (refine' mulS ?_ ?_ <;> omega))
  | ((with_reducible show CDivW _ _); (refine' divS ?_ ?_ <;> omega))
  | ((with_reducible show CPow _ _); exact ⟨by decide, by decide, by decide⟩)
  | (show (0 : Int) < _; omega)
  | (with_unfolding_all exact (by decide)))
local macro_rules | `(tactic| wtm_at "at") => `(tactic| first
  | assumption
  | (refine' cl_atE ?e80 ?h80; (case' e80 => first | exact rfl | assumption); (case' h80 => wtm_at "ln"))
  | exact rfl)
local macro_rules | `(tactic| wtm_at "fr") => `(tactic| first
  | assumption
  | ((with_reducible refine' Mx.free0 ?m99 ?h99); (case' h99 => assumption); (case' m99 => wtm_at "mo")))
local macro_rules | `(tactic| wtm_at "hp") => `(tactic| first
  | assumption
  | ((with_reducible refine' Mx.get0 ?m1 ?h1); (case' m1 => assumption); (case' h1 => wtm_at "hp"))
  | ((with_reducible refine' Mx.get ?m2 ?n2 ?h2); (case' m2 => assumption); (case' n2 => wtm_at "nin"); (case' h2 => wtm_at "hp")))
local macro_rules | `(tactic| wtm_at "sl") => `(tactic| first
  | assumption
  | ((with_reducible refine' Mx.sqL0 ?m96 ?h96); (case' h96 => assumption); (case' m96 => wtm_at "mo"))
  | (refine' SqL.of ?h3; (case' h3 => wtm_at "hp"))
  | ((with_reducible refine' Mx.sqL0 ?m4 ?h4); (case' m4 => assumption); (case' h4 => wtm_at "sl"))
  | ((with_reducible refine' Mx.sqL ?m5 ?n5 ?h5); (case' m5 => assumption); (case' n5 => wtm_at "nin"); (case' h5 => wtm_at "sl")))
local macro_rules | `(tactic| wtm_at "st") => `(tactic| first
  | assumption
  | ((with_reducible refine' Mx.sqT0 ?m97 ?h97); (case' h97 => assumption); (case' m97 => wtm_at "mo"))
  | (refine' SqT.of ?h6; (case' h6 => wtm_at "hp"))
  | ((with_reducible refine' Mx.sqT0 ?m7 ?h7); (case' m7 => assumption); (case' h7 => wtm_at "st"))
  | ((with_reducible refine' Mx.sqT ?m8 ?n8 ?h8); (case' m8 => assumption); (case' n8 => wtm_at "nin"); (case' h8 => wtm_at "st")))
local macro_rules | `(tactic| wtm_at "mx") => `(tactic| first
  | assumption
  | exact Mx.refl
  | ((with_reducible refine' Mx.of0 ?h9); (case' h9 => assumption))
  | ((with_reducible refine' Mx.trans ?h10 ?m10); (case' m10 => first | assumption | ((with_reducible refine' Mx.of0 ?q10); (case' q10 => assumption))); (case' h10 => wtm_at "mx")))
local macro_rules | `(tactic| wtm_at "mo") => `(tactic| first
  | wtm_at "mx"
  | ((with_reducible refine' Mx.own ?m90 ?f90 ?k90); (case' k90 => assumption); (case' f90 => wtm_at "fr"); (case' m90 => wtm_at "mo"))
  | ((with_reducible refine' Mx.trans ?h91 ?m91); (case' m91 => first | assumption | ((with_reducible refine' Mx.of0 ?q91); (case' q91 => assumption))); (case' h91 => wtm_at "mo")))
local macro_rules | `(tactic| wtm_at "ne") => `(tactic| first
  | assumption
  | exact Ne.symm (by assumption)
  | ((with_reducible refine' ne_of_none ?x94 ?y94); (case' y94 => assumption); (case' x94 => wtm_at "hp"))
  | ((with_reducible refine' Ne.symm (ne_of_none ?x95 ?y95)); (case' y95 => assumption); (case' x95 => wtm_at "hp")))
local macro_rules | `(tactic| wtm_at "nin") => `(tactic| first
  | assumption
  | exact List.not_mem_nil
  | ((with_reducible refine' List.not_mem_cons_of_ne_of_not_mem ?h98 ?t98); (case' h98 => wtm_at "ne"); (case' t98 => wtm_at "nin")))
local macro_rules | `(tactic| wtm_at "g1") => `(tactic| first
  | ((with_reducible refine' g_var ?h11 ?k11); (case' h11 => exact rfl))
  | with_reducible refine' g_c ?_
  | with_reducible refine' g_op ?_
  | with_reducible refine' g_I0 ?_
  | ((with_reducible refine' g_I ?c12 ?k12); (case' c12 => wtm_at "ar"))
  | with_reducible refine' g_cons ?_
  | with_reducible refine' g_nil ?_
  | with_reducible refine' g_seq ?_
  | with_reducible refine' g_asg ?_
  | with_reducible refine' g_name ?_
  | with_reducible refine' g_ret ?_
  | with_reducible refine' g_if ?_
  | with_reducible refine' g_test ?_
  | with_reducible refine' g_tB ?_
  | with_reducible refine' g_bl ?_
  | ((with_reducible refine' g_eq ?h13 ?k13); (case' h13 => exact rfl))
  | ((with_reducible refine' g_ne ?h14 ?k14); (case' h14 => exact rfl))
  | with_reducible refine' g_CB ?_
  | with_reducible refine' g_call ?_
  | with_reducible refine' g_drop ?_
  | with_reducible refine' g_next ?_
  | with_reducible refine' g_not ?_
  | with_reducible refine' g_and ?_
  | with_reducible refine' g_or ?_
  | with_reducible refine' g_un ?_
  | with_reducible refine' g_U ?_
  | with_reducible refine' g_tup ?_
  | with_reducible refine' g_lst ?_
  | ((with_reducible refine' g_kNew ?h15 ?k15); (case' h15 => wtm_at "ln"); (case' k15 => intro _ _ _ _ _))
  | ((with_reducible refine' g_ixL ?h16 ?a16 ?k16); (case' h16 => wtm_at "sl"); (case' a16 => wtm_at "at"))
  | ((with_reducible refine' g_ixT ?h17 ?a17 ?k17); (case' h17 => wtm_at "st"); (case' a17 => wtm_at "at"))
  | with_reducible refine' g_slice ?_
  | with_reducible refine' g_part ?_
  | with_reducible refine' g_kPart ?_
  | with_reducible refine' g_noPart ?_
  | ((with_reducible refine' g_slL ?h18 ?k18); (case' h18 => wtm_at "sl"); (case' k18 => intro _ _ _ _ _))
  | ((with_reducible refine' g_cat ?h119 ?h219 ?l19 ?k19); (case' h119 => wtm_at "hp"); (case' h219 => wtm_at "hp"); (case' l19 => wtm_at "ln"); (case' k19 => intro _ _ _ _ _))
  | ((with_reducible refine' g_rep ?h120 ?h220 ?h320 ?l20 ?k20); (case' h120 => wtm_at "hp"); (case' h220 => wtm_at "ln"); (case' h320 => wtm_at "ln"); (case' l20 => wtm_at "ln"); (case' k20 => intro _ _ _ _ _))
  | ((with_reducible refine' g_append ?h21 ?l21 ?k21); (case' h21 => wtm_at "hp"); (case' l21 => wtm_at "ln"); (case' k21 => intro _ _ _))
  | ((with_reducible refine' g_kBM ?h22 ?k22); (case' h22 => wtm_at "sl"))
  | ((with_reducible refine' g_kBM0 ?h23 ?k23); (case' h23 => wtm_at "sl"))
  | ((with_reducible refine' g_kL ?h24 ?k24); (case' h24 => wtm_at "sl"))
  | ((with_reducible refine' g_kR1 ?h125 ?h225 ?k25); (case' h125 => wtm_at "ln"); (case' h225 => wtm_at "ln"))
  | ((with_reducible refine' g_kR2 ?h126 ?h226 ?h326 ?h426 ?k26); (case' h126 => wtm_at "ln"); (case' h226 => wtm_at "ln"); (case' h326 => wtm_at "ln"); (case' h426 => wtm_at "ln"))
  | ((with_reducible refine' g_lenL ?h27 ?k27); (case' h27 => wtm_at "sl"))
  | ((with_reducible refine' g_lenT ?h28 ?k28); (case' h28 => wtm_at "st"))
  | ((with_reducible refine' g_listL ?h29 ?k29); (case' h29 => wtm_at "sl"); (case' k29 => intro _ _ _ _ _))
  | ((with_reducible refine' g_tupleL ?h30 ?k30); (case' h30 => wtm_at "sl"); (case' k30 => intro _ _ _ _ _))
  | with_reducible refine' g_max ?_
  | with_reducible refine' g_min ?_
  | with_reducible refine' g_intB ?_
  | with_reducible refine' g_fld ?_
  | with_reducible refine' g_put ?_
  | with_reducible refine' g_dget ?_
  | with_reducible refine' g_isN ?_
  | with_reducible refine' g_notN ?_
  | with_reducible refine' g_ifE ?_
  | with_reducible refine' g_andV ?_
  | with_reducible refine' g_orV ?_
  | with_reducible refine' g_notV ?_
  | with_reducible refine' g_kIf ?_
  | with_reducible refine' g_chain ?_
  | with_reducible refine' g_kCh ?_
  | with_reducible refine' g_sub ?_
  | ((with_reducible refine' g_setI ?h92 ?e92 ?j92 ?k92); (case' h92 => wtm_at "hp"); (case' e92 => first | exact rfl | assumption); (case' j92 => wtm_at "ln"); (case' k92 => intro _ _ _))
  | ((with_reducible refine' g_setL ?h89 ?i89 ?k89); (case' h89 => wtm_at "hp"); (case' i89 => exact ixE rfl (by wtm_at "ln")); (case' k89 => intro _ _ _))
  | ((with_reducible refine' g_gtup ?h93 ?e93 ?k93); (case' h93 => wtm_at "st"); (case' e93 => exact rfl))
  | with_reducible refine' g_gcons ?_
  | with_reducible refine' g_gnil ?_
  | with_reducible refine' g_par ?_
  | with_reducible refine' g_kPar ?_
  | with_reducible refine' g_meth ?_
  | with_reducible refine' g_bm ?_
  | with_reducible refine' g_bm0 ?_
  | with_reducible refine' g_raise ?_
  | with_reducible refine' g_for ?_
  | with_reducible refine' g_iR1 ?_
  | with_reducible refine' g_iR2 ?_
  | with_reducible refine' g_iL ?_
  | with_reducible refine' g_lc ?_
  | with_reducible refine' g_retN ?_
  | with_reducible refine' g_no (b := false) rfl ?_
  | with_reducible refine' g_yes (b := true) rfl ?_)
local macro_rules | `(tactic| wtm_at "go") => `(tactic| repeat (wtm_at "g1"))
local macro_rules | `(tactic| wtm_at "gs") => `(tactic| repeat ((fail_if_success (with_reducible refine' g_ifE ?_)); wtm_at "g1"))
local macro_rules | `(tactic| wtm_at "gi") => `(tactic| repeat ((fail_if_success (with_reducible refine' g_if ?_)); wtm_at "g1"))
local macro_rules | `(tactic| wtm_at "gr") => `(tactic| repeat ((fail_if_success (with_reducible refine' g_ret ?_)); wtm_at "g1"))
local macro_rules | `(tactic| wtm_at "gq") => `(tactic| repeat ((fail_if_success (with_reducible refine' g_asg ?_)); wtm_at "g1"))
/-! ### the plain law: what a deed does is what is due -/
def wfB : Nat → Nat
  | 0 => 10 ^ 30
  | n + 1 => wfB n + 100000
theorem wfB_succ (n : Nat) : wfB (n + 1) = wfB n + 100000 := rfl
theorem wfB_eq (n : Nat) : wfB n = 10 ^ 30 + n * 100000 := by
  induction n with
  | zero => rfl
  | succ n ih => rw [wfB_succ, ih]; omega
theorem wfB_mono {n m : Nat} (h : n ≤ m) : wfB n ≤ wfB m := by rw [wfB_eq, wfB_eq]; omega
theorem wfB_lo (n : Nat) : 10 ^ 30 ≤ wfB n := by rw [wfB_eq]; omega
theorem wfB_hi {n : Nat} (h : n ≤ 1000) : wfB n < 2 ^ 200 := by rw [wfB_eq]; omega
structure Wf (n : Nat) (μ : Mt) : Prop where
  any : Any μ.cells
  ow : μ.up = true → owed μ = none
  nn : 1 ≤ μ.num ∧ μ.num ≤ 9999
  kk : 0 ≤ μ.key ∧ μ.key ≤ 999981
  b6 : 0 ≤ bk μ 6
  bd : ∀ i, (bk μ i).natAbs ≤ wfB n
  ln : μ.stamps.length ≤ n
theorem Wf.sm {n : Nat} {μ : Mt} (W : Wf n μ) (h : n ≤ 1000) : Sm μ := by
  refine ⟨?_, ?_, fun i => ?_⟩
  · have := W.nn; omega
  · have := W.kk; omega
  · have := W.bd i; have := wfB_hi h; omega
theorem Wf.mono {n m : Nat} {μ : Mt} (W : Wf n μ) (h : n ≤ m) : Wf m μ := ⟨W.any, W.ow, W.nn, W.kk, W.b6, fun i => Nat.le_trans (W.bd i) (wfB_mono h), by have := W.ln; omega⟩
theorem cl_set_or (b : List Int) (j i : Nat) (v : Int) : cl (b.set j v) i = cl b i ∨ cl (b.set j v) i = v := by
  by_cases h : i = j
  · subst h
    by_cases h2 : i < b.length
    · exact .inr (cl_set_eq h2)
    · rw [List.set_eq_of_length_le (by omega)]
      exact .inl rfl
  · exact .inl (cl_set_ne h)
theorem foldl_or : ∀ (chs : List (Nat × Int)) (b : List Int) (i : Nat), cl (chs.foldl (fun b c => b.set c.1 c.2) b) i = cl b i ∨ ∃ c ∈ chs, cl (chs.foldl (fun b c => b.set c.1 c.2) b) i = c.2
  | [], b, i => .inl rfl
  | c :: r, b, i => by
    rw [List.foldl_cons]
    rcases foldl_or r (b.set c.1 c.2) i with h | ⟨d, hd, h⟩
    · rcases cl_set_or b c.1 i c.2 with e | e
      · exact .inl (h.trans e)
      · exact .inr ⟨c, List.mem_cons_self, h.trans e⟩
    · exact .inr ⟨d, List.mem_cons_of_mem _ hd, h⟩
theorem news_or (cs : List Int) (chs : List (Nat × Int)) (i : Nat) : cl (news cs chs) i = cl (bank cs) i ∨ cl (news cs chs) i = cl (bank cs) 1 + 1 ∨ ∃ c ∈ chs, cl (news cs chs) i = c.2 := by
  unfold news
  rcases foldl_or chs ((bank cs).set 1 (cl (bank cs) 1 + 1)) i with h | h
  · rcases cl_set_or (bank cs) 1 i (cl (bank cs) 1 + 1) with e | e
    · exact .inl (h.trans e)
    · exact .inr (.inl (h.trans e))
  · exact .inr (.inr h)
theorem news_bd {n : Nat} {μ : Mt} (W : Wf n μ) {chs : List (Nat × Int)} (h : ∀ c ∈ chs, c.2.natAbs ≤ wfB (n + 1)) (i : Nat) : (cl (news μ.cells chs) i).natAbs ≤ wfB (n + 1) := by
  have hs := wfB_succ n
  rcases news_or μ.cells chs i with e | e | ⟨c, hc, e⟩
  · have := W.bd i; unfold bk at this; rw [e]; omega
  · have := W.bd 1; unfold bk at this; rw [e]; omega
  · rw [e]; exact h c hc
theorem amt_bd {a : Int} (h : ¬ amt a = false) : 1 ≤ a ∧ a ≤ 99999 := by
  unfold amt at h
  simp at h
  exact h
theorem chs_bd {n : Nat} {μ : Mt} (W : Wf n μ) {d : Dd} (h : refR μ d = none) : ∀ c ∈ chsOf μ d, c.2.natAbs ≤ wfB (n + 1) := by
  have hs := wfB_succ n
  have hlo := wfB_lo n
  have b2 := W.bd 2
  have b3 := W.bd 3
  have b4 := W.bd 4
  have b5 := W.bd 5
  have b6 := W.bd 6
  have b8 := W.bd 8
  cases d with
  | stamp a =>
    have ha : 1 ≤ a ∧ a ≤ 99999 := amt_bd fun z => by simp only [refR, stampR, z] at h; split at h <;> simp at h
    intro c hc
    simp [chsOf, stampChs] at hc
    rcases hc with rfl | rfl | rfl | rfl <;> simp <;> omega
  | back a =>
    have ha : 1 ≤ a ∧ a ≤ 99999 := amt_bd fun z => by simp only [refR, stampR, z] at h; split at h <;> simp at h
    intro c hc
    simp [chsOf, backChs] at hc
    rcases hc with rfl | rfl | rfl | rfl <;> simp <;> omega
  | top z =>
    have ha : 1 ≤ z.a ∧ z.a ≤ 99999 := amt_bd fun q => by simp only [refR, topR, good, q, Bool.and_false, Bool.false_and] at h; split at h <;> simp at h
    intro c hc
    simp [chsOf, topChsL] at hc
    rcases hc with rfl | rfl | rfl <;> simp <;> omega
  | up => intro c hc; simp [chsOf] at hc
theorem ref_up {μ : Mt} {d : Dd} (hd : d ≠ .up) (h : refR μ d = none) : μ.up = true := by
  cases d with
  | up => exact absurd rfl hd
  | stamp a => simp only [refR, stampR] at h; split at h <;> simp_all
  | back a => simp only [refR, stampR] at h; split at h <;> simp_all
  | top z => simp only [refR, topR] at h; split at h <;> simp_all
/-- the changes of a code and of an amount given back leave what is owed -/
theorem news_out {cs : List Int} {chs : List (Nat × Int)} {i : Nat} (h : ∀ c ∈ chs, c.1 ≠ i) (h1 : i ≠ 1) : cl (news cs chs) i = cl (bank cs) i := by
  unfold news
  rw [foldl_cl h, cl_set_ne h1]
theorem owed_wr {μ : Mt} {chs : List (Nat × Int)} (hA : Any μ.cells) (hc : Chs chs) (h : ∀ c ∈ chs, c.1 ≠ 8) (o : owed μ = none) : owed { μ with cells := wr μ.cells (stepsOf μ.cells chs) 11 } = none := by
  unfold owed at o ⊢
  have : ¬ lastNo μ.stamps < bk μ 8 := fun z => by rw [if_pos z] at o; cases o
  rw [bk_wr hA hc, news_out h (by decide)]
  exact if_neg this
theorem news_at {cs : List Int} (hl : cs.length = 20) {chs : List (Nat × Int)} {l r : List (Nat × Int)} {j : Nat} {v : Int} (e : chs = l ++ (j, v) :: r) (h : ∀ c ∈ r, c.1 ≠ j) (hj : j < 10) : cl (news cs chs) j = v := by
  subst e
  unfold news
  rw [List.foldl_append, List.foldl_cons, foldl_cl h, cl_set_eq]
  have : ∀ (l : List (Nat × Int)) (b : List Int), (l.foldl (fun b c => b.set c.1 c.2) b).length = b.length := by
    intro l
    induction l with
    | nil => intro b; rfl
    | cons c r ih => intro b; rw [List.foldl_cons, ih, List.length_set]
  rw [this, List.length_set, bank_len hl]
  exact hj
theorem lastB_back {n : Nat} {μ : Mt} (W : Wf n μ) (a : Int) : lastB { μ with cells := wr μ.cells (stepsOf μ.cells (backChs μ a)) 11 } = cdD (mkCd μ.key μ.num (bk μ 6 + 1) a 2) := by
  have e6 : cl (news μ.cells (backChs μ a)) 6 = bk μ 6 + 1 := news_at W.any.1 (l := [(3, bk μ 3 - a), (4, bk μ 4 - a)]) (r := [(7, a)]) rfl (by simp) (by decide)
  have e7 : cl (news μ.cells (backChs μ a)) 7 = a := news_at W.any.1 (l := [(3, bk μ 3 - a), (4, bk μ 4 - a), (6, bk μ 6 + 1)]) (r := []) rfl (by simp) (by decide)
  unfold lastB
  rw [bk_wr W.any (backChs_ok μ a), bk_wr W.any (backChs_ok μ a), e6, e7]
  have := W.b6
  rw [if_pos (by omega)]
theorem does_due {n : Nat} {μ : Mt} (W : Wf n μ) (d : Dd) (cut : Option Nat) : (∀ r, doesR μ d = some r → dueM μ d cut = (.str r.word, μ)) ∧ (doesR μ d = none → dueM μ d cut = doesM μ d cut) := by
  refine ⟨fun r h => ?_, fun h => ?_⟩
  · cases d with
    | up =>
      by_cases hu : μ.up = true
      · simp [doesR, hu] at h
        subst h
        simp [dueM, hu, Rf.word]
      · simp [doesR, hu] at h
    | stamp a => exact dueM_ref (by simp) h
    | back a => exact dueM_ref (by simp) h
    | top z => exact dueM_ref (by simp) h
  · cases d with
    | up =>
      by_cases hu : μ.up = true
      · simp [doesR, hu] at h
      · have hf : μ.up = false := by simpa using hu
        have e : { μ with up := false } = μ := by rw [← hf]
        cases eo : owed μ with
        | none => simp [dueM, doesM, upM, printM, eo, hf]
        | some s =>
          by_cases hc : cut = some 0
          · simp [dueM, doesM, upM, printM, eo, hf, hc]
            exact e.symm
          · simp [dueM, doesM, upM, printM, eo, hf, hc]
    | stamp a =>
      rw [dueM_run (d := .stamp a) (by simp) h]
      rcases writeM_cases μ (stampChs μ a) cut with ⟨k, _, _, e⟩ | ⟨_, e⟩
      · simp [runM, doesM, stampM, chsOf, e]
      · simp only [runM, doesM, stampM, chsOf, e, toldOf]
        split <;> simp_all
    | back a =>
      have hup := ref_up (d := .back a) (by simp) h
      rw [dueM_run (d := .back a) (by simp) h]
      rcases writeM_cases μ (backChs μ a) cut with ⟨k, _, _, e⟩ | ⟨_, e⟩
      · simp [runM, doesM, backM, chsOf, e]
      · have o := owed_wr W.any (backChs_ok μ a) (by simp [backChs]) (W.ow hup)
        simp only [runM, doesM, backM, chsOf, e, toldOf, printM, o, lastB_back W a, if_true]
    | top z =>
      have hup := ref_up (d := .top z) (by simp) h
      have hz : z.c = bk μ 5 + 1 := by
        simp only [doesR, refR, topR] at h
        split at h
        · cases h
        · split at h
          · cases h
          · rename_i g
            simp [good] at g
            exact g.2.1
      have ec : topChs μ z = topChsL μ z := by unfold topChs topChsL; rw [hz]
      rw [dueM_run (d := .top z) (by simp) h]
      rcases writeM_cases μ (topChsL μ z) cut with ⟨k, _, _, e⟩ | ⟨_, e⟩
      · simp [runM, doesM, topM, chsOf, ec, e]
      · have o := owed_wr W.any (chsOf_ok μ (.top z)) (by simp [chsOf, topChsL]) (W.ow hup)
        simp only [chsOf] at o
        simp only [runM, doesM, topM, chsOf, ec, e, toldOf, printM, o, if_true]
theorem lastNo_app (ss : List (Int × Int)) (s : Int × Int) : lastNo (ss ++ [s]) = s.1 := by
  unfold lastNo
  rw [List.getLast?_concat]
theorem owed_some {μ : Mt} {s : Int × Int} (h : owed μ = some s) : s = (bk μ 8, bk μ 9) := by
  unfold owed at h
  split at h
  · cases h; rfl
  · cases h
theorem owed_app {μ : Mt} {s : Int × Int} (b : Bool) (h : owed μ = some s) : owed { μ with stamps := μ.stamps ++ [s], up := b } = none := by
  have hs := owed_some h
  subst hs
  unfold owed
  show (if lastNo (μ.stamps ++ [(bk μ 8, bk μ 9)]) < bk μ 8 then _ else _) = none
  rw [lastNo_app, if_neg (by simp)]
theorem Wf.down {n : Nat} {μ : Mt} (W : Wf n μ) : Wf n { μ with up := false } := ⟨W.any, (fun z => nomatch z), W.nn, W.kk, W.b6, W.bd, W.ln⟩
theorem Wf.print {n : Nat} {μ : Mt} {s : Int × Int} (b : Bool) (W : Wf n μ) (h : owed μ = some s) : Wf (n + 1) { μ with stamps := μ.stamps ++ [s], up := b } :=
  ⟨W.any, fun _ => owed_app b h, W.nn, W.kk, W.b6, fun i => Nat.le_trans (W.bd i) (wfB_mono (Nat.le_succ n)), by
    show (μ.stamps ++ [s]).length ≤ _
    rw [List.length_append]
    have := W.ln
    simp
    exact this⟩
theorem printM_wf {n : Nat} {μ : Mt} (cut : Option Nat) (h1 : Any μ.cells) (h2 : 1 ≤ μ.num ∧ μ.num ≤ 9999) (h3 : 0 ≤ μ.key ∧ μ.key ≤ 999981) (h4 : 0 ≤ bk μ 6) (h5 : ∀ i, (bk μ i).natAbs ≤ wfB (n + 1)) (h6 : μ.stamps.length ≤ n) : Wf (n + 1) (printM μ cut).2 := by
  unfold printM
  cases eo : owed μ with
  | none => exact ⟨h1, (fun _ => eo), h2, h3, h4, h5, Nat.le_succ_of_le h6⟩
  | some s =>
    by_cases h0 : cut = some 0
    · rw [h0]
      exact ⟨h1, (fun z => nomatch z), h2, h3, h4, h5, Nat.le_succ_of_le h6⟩
    · simp only [h0, if_false]
      refine ⟨h1, (fun _ => owed_app μ.up eo), h2, h3, h4, h5, ?_⟩
      show (μ.stamps ++ [s]).length ≤ _
      rw [List.length_append]
      simp
      exact h6
theorem runM_wf {n : Nat} {μ : Mt} {chs : List (Nat × Int)} (cut : Option Nat) (W : Wf n μ) (hc : Chs chs) (hb : ∀ c ∈ chs, c.2.natAbs ≤ wfB (n + 1)) (h6 : 0 ≤ cl (news μ.cells chs) 6) : Wf (n + 1) (runM μ chs cut).2 := by
  unfold runM
  rcases writeM_cases μ chs cut with ⟨k, _, hk, e⟩ | ⟨_, e⟩
  · rw [e]
    have eb : ∀ i, bk { μ with cells := wr μ.cells (stepsOf μ.cells chs) k, up := false } i = bk μ i := fun i => by unfold bk; rw [bank_wr_cut W.any hk]
    have b6 := W.b6
    have bd := W.bd
    rw [← eb] at b6
    exact ⟨any_wr W.any, (fun z => nomatch z), W.nn, W.kk, b6, (fun i => by have := bd i; rw [← eb i] at this; exact Nat.le_trans this (wfB_mono (Nat.le_succ n))), Nat.le_succ_of_le W.ln⟩
  · rw [e]
    have eb : ∀ i, bk { μ with cells := wr μ.cells (stepsOf μ.cells chs) 11 } i = cl (news μ.cells chs) i := bk_wr W.any hc
    rw [← eb] at h6
    exact printM_wf (μ := { μ with cells := wr μ.cells (stepsOf μ.cells chs) 11 }) _ (any_wr W.any) W.nn W.kk h6 (fun i => by rw [eb]; exact news_bd W hb i) W.ln
theorem chs_b6 {n : Nat} {μ : Mt} (W : Wf n μ) (d : Dd) : 0 ≤ cl (news μ.cells (chsOf μ d)) 6 := by
  have h6 := W.b6
  cases d with
  | stamp a => rw [news_out (by simp [chsOf, stampChs]) (by decide)]; exact h6
  | top z => rw [news_out (by simp [chsOf, topChsL]) (by decide)]; exact h6
  | up => rw [news_out (by simp [chsOf]) (by decide)]; exact h6
  | back a =>
    have e6 : cl (news μ.cells (backChs μ a)) 6 = bk μ 6 + 1 := news_at W.any.1 (l := [(3, bk μ 3 - a), (4, bk μ 4 - a)]) (r := [(7, a)]) rfl (by simp) (by decide)
    show 0 ≤ cl (news μ.cells (backChs μ a)) 6
    rw [e6]
    omega
theorem due_wf {n : Nat} {μ : Mt} (W : Wf n μ) (d : Dd) (cut : Option Nat) : Wf (n + 1) (dueM μ d cut).2 := by
  by_cases hd : d = .up
  · subst hd
    by_cases hu : μ.up = true
    · have e : dueM μ .up cut = (.str "Up", μ) := if_pos hu
      rw [e]
      exact W.mono (Nat.le_succ n)
    · cases eo : owed μ with
      | none =>
        have e : dueM μ .up cut = (.bool true, { μ with up := true }) := by simp [dueM, hu, eo]
        rw [e]
        exact ⟨W.any, (fun _ => eo), W.nn, W.kk, W.b6, (fun i => Nat.le_trans (W.bd i) (wfB_mono (Nat.le_succ n))), Nat.le_succ_of_le W.ln⟩
      | some s =>
        by_cases h0 : cut = some 0
        · have e : dueM μ .up cut = (.none, μ) := by simp [dueM, hu, eo, h0]
          rw [e]
          exact W.mono (Nat.le_succ n)
        · have e : dueM μ .up cut = (.bool true, { μ with stamps := μ.stamps ++ [s], up := true }) := by simp [dueM, hu, eo, h0]
          rw [e]
          exact W.print true eo
  · cases hr : refR μ d with
    | some r => rw [dueM_ref hd hr]; exact W.mono (Nat.le_succ n)
    | none =>
      rw [dueM_run hd hr]
      exact runM_wf cut W (chsOf_ok μ d) (chs_bd W hr) (chs_b6 W d)
end Fk
namespace Fk
open PySem PySem.Spec PyProof.Rows L2
local macro_rules | `(tactic| wtm_at "ln") => `(tactic| first
  | omega
  | (simp only [List.length_cons, List.length_nil, List.length_map, List.length_append, List.length_replicate, List.length_take, List.length_drop, List.length_set]; omega)
  | (with_unfolding_all exact (by decide)))
local macro_rules | `(tactic| wtm_at "ar") => `(tactic| first
  | ((with_reducible show CMulW _ _); (refine' mulS ?_ ?_ <;> omega))
  | ((with_reducible show CDivW _ _); (refine' divS ?_ ?_ <;> omega))
  | ((with_reducible show CPow _ _); exact ⟨by decide, by decide, by decide⟩)
  | (show (0 : Int) < _; omega)
  | (with_unfolding_all exact (by decide)))
local macro_rules | `(tactic| wtm_at "at") => `(tactic| first
  | assumption
  | (refine' cl_atE ?e80 ?h80; (case' e80 => first | exact rfl | assumption); (case' h80 => wtm_at "ln"))
  | exact rfl)
local macro_rules | `(tactic| wtm_at "fr") => `(tactic| first
  | assumption
  | ((with_reducible refine' Mx.free0 ?m99 ?h99); (case' h99 => assumption); (case' m99 => wtm_at "mo")))
local macro_rules | `(tactic| wtm_at "hp") => `(tactic| first
  | assumption
  | ((with_reducible refine' Mx.get0 ?m1 ?h1); (case' m1 => assumption); (case' h1 => wtm_at "hp"))
  | ((with_reducible refine' Mx.get ?m2 ?n2 ?h2); (case' m2 => assumption); (case' n2 => wtm_at "nin"); (case' h2 => wtm_at "hp")))
local macro_rules | `(tactic| wtm_at "sl") => `(tactic| first
  | assumption
  | ((with_reducible refine' Mx.sqL0 ?m96 ?h96); (case' h96 => assumption); (case' m96 => wtm_at "mo"))
  | (refine' SqL.of ?h3; (case' h3 => wtm_at "hp"))
  | ((with_reducible refine' Mx.sqL0 ?m4 ?h4); (case' m4 => assumption); (case' h4 => wtm_at "sl"))
  | ((with_reducible refine' Mx.sqL ?m5 ?n5 ?h5); (case' m5 => assumption); (case' n5 => wtm_at "nin"); (case' h5 => wtm_at "sl")))
local macro_rules | `(tactic| wtm_at "st") => `(tactic| first
  | assumption
  | ((with_reducible refine' Mx.sqT0 ?m97 ?h97); (case' h97 => assumption); (case' m97 => wtm_at "mo"))
  | (refine' SqT.of ?h6; (case' h6 => wtm_at "hp"))
  | ((with_reducible refine' Mx.sqT0 ?m7 ?h7); (case' m7 => assumption); (case' h7 => wtm_at "st"))
  | ((with_reducible refine' Mx.sqT ?m8 ?n8 ?h8); (case' m8 => assumption); (case' n8 => wtm_at "nin"); (case' h8 => wtm_at "st")))
local macro_rules | `(tactic| wtm_at "mx") => `(tactic| first
  | assumption
  | exact Mx.refl
  | ((with_reducible refine' Mx.of0 ?h9); (case' h9 => assumption))
  | ((with_reducible refine' Mx.trans ?h10 ?m10); (case' m10 => first | assumption | ((with_reducible refine' Mx.of0 ?q10); (case' q10 => assumption))); (case' h10 => wtm_at "mx")))
local macro_rules | `(tactic| wtm_at "mo") => `(tactic| first
  | wtm_at "mx"
  | ((with_reducible refine' Mx.own ?m90 ?f90 ?k90); (case' k90 => assumption); (case' f90 => wtm_at "fr"); (case' m90 => wtm_at "mo"))
  | ((with_reducible refine' Mx.trans ?h91 ?m91); (case' m91 => first | assumption | ((with_reducible refine' Mx.of0 ?q91); (case' q91 => assumption))); (case' h91 => wtm_at "mo")))
local macro_rules | `(tactic| wtm_at "ne") => `(tactic| first
  | assumption
  | exact Ne.symm (by assumption)
  | ((with_reducible refine' ne_of_none ?x94 ?y94); (case' y94 => assumption); (case' x94 => wtm_at "hp"))
  | ((with_reducible refine' Ne.symm (ne_of_none ?x95 ?y95)); (case' y95 => assumption); (case' x95 => wtm_at "hp")))
local macro_rules | `(tactic| wtm_at "nin") => `(tactic| first
  | assumption
  | exact List.not_mem_nil
  | ((with_reducible refine' List.not_mem_cons_of_ne_of_not_mem ?h98 ?t98); (case' h98 => wtm_at "ne"); (case' t98 => wtm_at "nin")))
local macro_rules | `(tactic| wtm_at "g1") => `(tactic| first
  | ((with_reducible refine' g_var ?h11 ?k11); (case' h11 => exact rfl))
  | with_reducible refine' g_c ?_
  | with_reducible refine' g_op ?_
  | with_reducible refine' g_I0 ?_
  | ((with_reducible refine' g_I ?c12 ?k12); (case' c12 => wtm_at "ar"))
  | with_reducible refine' g_cons ?_
  | with_reducible refine' g_nil ?_
  | with_reducible refine' g_seq ?_
  | with_reducible refine' g_asg ?_
  | with_reducible refine' g_name ?_
  | with_reducible refine' g_ret ?_
  | with_reducible refine' g_if ?_
  | with_reducible refine' g_test ?_
  | with_reducible refine' g_tB ?_
  | with_reducible refine' g_bl ?_
  | ((with_reducible refine' g_eq ?h13 ?k13); (case' h13 => exact rfl))
  | ((with_reducible refine' g_ne ?h14 ?k14); (case' h14 => exact rfl))
  | with_reducible refine' g_CB ?_
  | with_reducible refine' g_call ?_
  | with_reducible refine' g_drop ?_
  | with_reducible refine' g_next ?_
  | with_reducible refine' g_not ?_
  | with_reducible refine' g_and ?_
  | with_reducible refine' g_or ?_
  | with_reducible refine' g_un ?_
  | with_reducible refine' g_U ?_
  | with_reducible refine' g_tup ?_
  | with_reducible refine' g_lst ?_
  | ((with_reducible refine' g_kNew ?h15 ?k15); (case' h15 => wtm_at "ln"); (case' k15 => intro _ _ _ _ _))
  | ((with_reducible refine' g_ixL ?h16 ?a16 ?k16); (case' h16 => wtm_at "sl"); (case' a16 => wtm_at "at"))
  | ((with_reducible refine' g_ixT ?h17 ?a17 ?k17); (case' h17 => wtm_at "st"); (case' a17 => wtm_at "at"))
  | with_reducible refine' g_slice ?_
  | with_reducible refine' g_part ?_
  | with_reducible refine' g_kPart ?_
  | with_reducible refine' g_noPart ?_
  | ((with_reducible refine' g_slL ?h18 ?k18); (case' h18 => wtm_at "sl"); (case' k18 => intro _ _ _ _ _))
  | ((with_reducible refine' g_cat ?h119 ?h219 ?l19 ?k19); (case' h119 => wtm_at "hp"); (case' h219 => wtm_at "hp"); (case' l19 => wtm_at "ln"); (case' k19 => intro _ _ _ _ _))
  | ((with_reducible refine' g_rep ?h120 ?h220 ?h320 ?l20 ?k20); (case' h120 => wtm_at "hp"); (case' h220 => wtm_at "ln"); (case' h320 => wtm_at "ln"); (case' l20 => wtm_at "ln"); (case' k20 => intro _ _ _ _ _))
  | ((with_reducible refine' g_append ?h21 ?l21 ?k21); (case' h21 => wtm_at "hp"); (case' l21 => wtm_at "ln"); (case' k21 => intro _ _ _))
  | ((with_reducible refine' g_kBM ?h22 ?k22); (case' h22 => wtm_at "sl"))
  | ((with_reducible refine' g_kBM0 ?h23 ?k23); (case' h23 => wtm_at "sl"))
  | ((with_reducible refine' g_kL ?h24 ?k24); (case' h24 => wtm_at "sl"))
  | ((with_reducible refine' g_kR1 ?h125 ?h225 ?k25); (case' h125 => wtm_at "ln"); (case' h225 => wtm_at "ln"))
  | ((with_reducible refine' g_kR2 ?h126 ?h226 ?h326 ?h426 ?k26); (case' h126 => wtm_at "ln"); (case' h226 => wtm_at "ln"); (case' h326 => wtm_at "ln"); (case' h426 => wtm_at "ln"))
  | ((with_reducible refine' g_lenL ?h27 ?k27); (case' h27 => wtm_at "sl"))
  | ((with_reducible refine' g_lenT ?h28 ?k28); (case' h28 => wtm_at "st"))
  | ((with_reducible refine' g_listL ?h29 ?k29); (case' h29 => wtm_at "sl"); (case' k29 => intro _ _ _ _ _))
  | ((with_reducible refine' g_tupleL ?h30 ?k30); (case' h30 => wtm_at "sl"); (case' k30 => intro _ _ _ _ _))
  | with_reducible refine' g_max ?_
  | with_reducible refine' g_min ?_
  | with_reducible refine' g_intB ?_
  | with_reducible refine' g_fld ?_
  | with_reducible refine' g_put ?_
  | with_reducible refine' g_dget ?_
  | with_reducible refine' g_isN ?_
  | with_reducible refine' g_notN ?_
  | with_reducible refine' g_ifE ?_
  | with_reducible refine' g_andV ?_
  | with_reducible refine' g_orV ?_
  | with_reducible refine' g_notV ?_
  | with_reducible refine' g_kIf ?_
  | with_reducible refine' g_chain ?_
  | with_reducible refine' g_kCh ?_
  | with_reducible refine' g_sub ?_
  | ((with_reducible refine' g_setI ?h92 ?e92 ?j92 ?k92); (case' h92 => wtm_at "hp"); (case' e92 => first | exact rfl | assumption); (case' j92 => wtm_at "ln"); (case' k92 => intro _ _ _))
  | ((with_reducible refine' g_setL ?h89 ?i89 ?k89); (case' h89 => wtm_at "hp"); (case' i89 => exact ixE rfl (by wtm_at "ln")); (case' k89 => intro _ _ _))
  | ((with_reducible refine' g_gtup ?h93 ?e93 ?k93); (case' h93 => wtm_at "st"); (case' e93 => exact rfl))
  | with_reducible refine' g_gcons ?_
  | with_reducible refine' g_gnil ?_
  | with_reducible refine' g_par ?_
  | with_reducible refine' g_kPar ?_
  | with_reducible refine' g_meth ?_
  | with_reducible refine' g_bm ?_
  | with_reducible refine' g_bm0 ?_
  | with_reducible refine' g_raise ?_
  | with_reducible refine' g_for ?_
  | with_reducible refine' g_iR1 ?_
  | with_reducible refine' g_iR2 ?_
  | with_reducible refine' g_iL ?_
  | with_reducible refine' g_lc ?_
  | with_reducible refine' g_retN ?_
  | with_reducible refine' g_no (b := false) rfl ?_
  | with_reducible refine' g_yes (b := true) rfl ?_)
local macro_rules | `(tactic| wtm_at "go") => `(tactic| repeat (wtm_at "g1"))
local macro_rules | `(tactic| wtm_at "gs") => `(tactic| repeat ((fail_if_success (with_reducible refine' g_ifE ?_)); wtm_at "g1"))
local macro_rules | `(tactic| wtm_at "gi") => `(tactic| repeat ((fail_if_success (with_reducible refine' g_if ?_)); wtm_at "g1"))
local macro_rules | `(tactic| wtm_at "gr") => `(tactic| repeat ((fail_if_success (with_reducible refine' g_ret ?_)); wtm_at "g1"))
local macro_rules | `(tactic| wtm_at "gq") => `(tactic| repeat ((fail_if_success (with_reducible refine' g_asg ?_)); wtm_at "g1"))
section
variable {P : Program} {w : World} {K : PySem.W.Frag} {mg : Str → Option Value} {base : Heap}
/-- a new instance is made -/
def kMk (x : Addr) (Q : VK) : VK := fun v H2 => v = .non ∧ Q (.ref x) H2
theorem g_kMk {x : Addr} {Q : VK} {H : Hp} (k : Q (.ref x) H) : kMk x Q .non H := ⟨rfl, k⟩
def kMake (C : Addr) (sp : Sp) (dvs : List V) (E : XK) (Q : VK) : List V → Hp → Prop := fun vs H1 => ∀ x dx, H1 x = none → H1 dx = none → dx ≠ x →
  sp (.ref x :: (vs ++ dvs)) (upd (upd H1 dx (.own x)) x (.ins C dx [])) (fun v H2 => v = .non ∧ Q (.ref x) H2) E
theorem g_make {C : Addr} {sp : Sp} {dvs : List V} {E : XK} {t : TA} {σ : L2.St} {H : Hp} {Q : VK} (k : t σ H (kMake C sp dvs E Q)) : tMake C sp dvs E t σ H Q := k
theorem g_kMake {C : Addr} {sp : Sp} {dvs vs : List V} {E : XK} {H : Hp} {Q : VK} (k : ∀ x dx H', H x = none → Mx [] H H' → H' x = some (.ins C dx []) → sp (.ref x :: (vs ++ dvs)) H' (kMk x Q) E) : kMake C sp dvs E Q vs H := fun x dx nx nd _ => by
  refine k x dx _ nx (fun a o e _ => ?_) upd_same
  rw [upd_ne (ne_of_none e nx), upd_ne (ne_of_none e nd)]
  exact e
local macro_rules | `(tactic| wtm_at "g1") => `(tactic| first
  | ((with_reducible refine' g_fOwn (by assumption) ?h201 ?k201); (case' h201 => wtm_at "hp"))
  | ((with_reducible refine' g_fKey (by assumption) ?h202 ?k202); (case' h202 => wtm_at "hp"))
  | ((with_reducible refine' g_fMem (by assumption) ?h203 ?k203); (case' h203 => wtm_at "hp"))
  | ((with_reducible refine' g_fPri (by assumption) ?h204 ?k204); (case' h204 => wtm_at "hp"))
  | ((with_reducible refine' g_fAwa (by assumption) ?h205 ?k205); (case' h205 => wtm_at "hp"))
  | ((with_reducible refine' g_pAwa (by assumption) ?h206 ?k206); (case' h206 => wtm_at "hp"); (case' k206 => intro _ _ _))
  | ((with_reducible refine' g_kMeth ?h207 ?l207 ?k207); (case' h207 => wtm_at "hp"); (case' l207 => exact rfl)))

/-- recovered -/
def spRecovered (T : Tx K mg) : Sp := fun vs H Q E => ∃ (n k : Int) (a b : Addr) (cs : List Int) (us : List V) (ss : List (Int × Int)), vs = [.int n, .int k, .ref a, .ref b] ∧ SqL K H a (cs.map V.int) ∧ cs.length ≤ 100000 ∧ SqL K H b us ∧ DpAll K H us (ss.map stD) ∧
  (((1 ≤ n ∧ n ≤ 9999) ∧ (0 ≤ k ∧ k ≤ 999981)) → Any cs → ∀ p pm pp H', H p = none → H pm = none → H pp = none → Mx [] H H' → MetAt K T.C_Meter H' p pm pp ⟨n, k, cs, ss, false⟩ → Q (.ref p) H') ∧
  (¬ ((1 ≤ n ∧ n ≤ 9999) ∧ (0 ≤ k ∧ k ≤ 999981)) → ∀ H', Mx [] H H' → E (.ref T.E_BadNumber) none H') ∧
  (((1 ≤ n ∧ n ≤ 9999) ∧ (0 ≤ k ∧ k ≤ 999981)) → ¬ Any cs → ∀ H', Mx [] H H' → E (.ref T.E_NoBank) none H')
end
end Fk
namespace Fk
open PySem PySem.Spec PyProof.Rows L2
local macro_rules | `(tactic| wtm_at "ln") => `(tactic| first
  | omega
  | (simp only [List.length_cons, List.length_nil, List.length_map, List.length_append, List.length_replicate, List.length_take, List.length_drop, List.length_set]; omega)
  | (with_unfolding_all exact (by decide)))
local macro_rules | `(tactic| wtm_at "ar") => `(tactic| first
  | ((with_reducible show CMulW _ _); (refine' mulS ?_ ?_ <;> omega))
  | ((with_reducible show CDivW _ _); (refine' divS ?_ ?_ <;> omega))
  | ((with_reducible show CPow _ _); exact ⟨by decide, by decide, by decide⟩)
  | (show (0 : Int) < _; omega)
  | (with_unfolding_all exact (by decide)))
local macro_rules | `(tactic| wtm_at "at") => `(tactic| first
  | assumption
  | (refine' cl_atE ?e80 ?h80; (case' e80 => first | exact rfl | assumption); (case' h80 => wtm_at "ln"))
  | exact rfl)
local macro_rules | `(tactic| wtm_at "fr") => `(tactic| first
  | assumption
  | ((with_reducible refine' Mx.free0 ?m99 ?h99); (case' h99 => assumption); (case' m99 => wtm_at "mo")))
local macro_rules | `(tactic| wtm_at "hp") => `(tactic| first
  | assumption
  | ((with_reducible refine' Mx.get0 ?m1 ?h1); (case' m1 => assumption); (case' h1 => wtm_at "hp"))
  | ((with_reducible refine' Mx.get ?m2 ?n2 ?h2); (case' m2 => assumption); (case' n2 => wtm_at "nin"); (case' h2 => wtm_at "hp")))
local macro_rules | `(tactic| wtm_at "sl") => `(tactic| first
  | assumption
  | ((with_reducible refine' Mx.sqL0 ?m96 ?h96); (case' h96 => assumption); (case' m96 => wtm_at "mo"))
  | (refine' SqL.of ?h3; (case' h3 => wtm_at "hp"))
  | ((with_reducible refine' Mx.sqL0 ?m4 ?h4); (case' m4 => assumption); (case' h4 => wtm_at "sl"))
  | ((with_reducible refine' Mx.sqL ?m5 ?n5 ?h5); (case' m5 => assumption); (case' n5 => wtm_at "nin"); (case' h5 => wtm_at "sl")))
local macro_rules | `(tactic| wtm_at "st") => `(tactic| first
  | assumption
  | ((with_reducible refine' Mx.sqT0 ?m97 ?h97); (case' h97 => assumption); (case' m97 => wtm_at "mo"))
  | (refine' SqT.of ?h6; (case' h6 => wtm_at "hp"))
  | ((with_reducible refine' Mx.sqT0 ?m7 ?h7); (case' m7 => assumption); (case' h7 => wtm_at "st"))
  | ((with_reducible refine' Mx.sqT ?m8 ?n8 ?h8); (case' m8 => assumption); (case' n8 => wtm_at "nin"); (case' h8 => wtm_at "st")))
local macro_rules | `(tactic| wtm_at "mx") => `(tactic| first
  | assumption
  | exact Mx.refl
  | ((with_reducible refine' Mx.of0 ?h9); (case' h9 => assumption))
  | ((with_reducible refine' Mx.trans ?h10 ?m10); (case' m10 => first | assumption | ((with_reducible refine' Mx.of0 ?q10); (case' q10 => assumption))); (case' h10 => wtm_at "mx")))
local macro_rules | `(tactic| wtm_at "mo") => `(tactic| first
  | wtm_at "mx"
  | ((with_reducible refine' Mx.own ?m90 ?f90 ?k90); (case' k90 => assumption); (case' f90 => wtm_at "fr"); (case' m90 => wtm_at "mo"))
  | ((with_reducible refine' Mx.trans ?h91 ?m91); (case' m91 => first | assumption | ((with_reducible refine' Mx.of0 ?q91); (case' q91 => assumption))); (case' h91 => wtm_at "mo")))
local macro_rules | `(tactic| wtm_at "ne") => `(tactic| first
  | assumption
  | exact Ne.symm (by assumption)
  | ((with_reducible refine' ne_of_none ?x94 ?y94); (case' y94 => assumption); (case' x94 => wtm_at "hp"))
  | ((with_reducible refine' Ne.symm (ne_of_none ?x95 ?y95)); (case' y95 => assumption); (case' x95 => wtm_at "hp")))
local macro_rules | `(tactic| wtm_at "nin") => `(tactic| first
  | assumption
  | exact List.not_mem_nil
  | ((with_reducible refine' List.not_mem_cons_of_ne_of_not_mem ?h98 ?t98); (case' h98 => wtm_at "ne"); (case' t98 => wtm_at "nin")))
local macro_rules | `(tactic| wtm_at "g1") => `(tactic| first
  | ((with_reducible refine' g_var ?h11 ?k11); (case' h11 => exact rfl))
  | with_reducible refine' g_c ?_
  | with_reducible refine' g_op ?_
  | with_reducible refine' g_I0 ?_
  | ((with_reducible refine' g_I ?c12 ?k12); (case' c12 => wtm_at "ar"))
  | with_reducible refine' g_cons ?_
  | with_reducible refine' g_nil ?_
  | with_reducible refine' g_seq ?_
  | with_reducible refine' g_asg ?_
  | with_reducible refine' g_name ?_
  | with_reducible refine' g_ret ?_
  | with_reducible refine' g_if ?_
  | with_reducible refine' g_test ?_
  | with_reducible refine' g_tB ?_
  | with_reducible refine' g_bl ?_
  | ((with_reducible refine' g_eq ?h13 ?k13); (case' h13 => exact rfl))
  | ((with_reducible refine' g_ne ?h14 ?k14); (case' h14 => exact rfl))
  | with_reducible refine' g_CB ?_
  | with_reducible refine' g_call ?_
  | with_reducible refine' g_drop ?_
  | with_reducible refine' g_next ?_
  | with_reducible refine' g_not ?_
  | with_reducible refine' g_and ?_
  | with_reducible refine' g_or ?_
  | with_reducible refine' g_un ?_
  | with_reducible refine' g_U ?_
  | with_reducible refine' g_tup ?_
  | with_reducible refine' g_lst ?_
  | ((with_reducible refine' g_kNew ?h15 ?k15); (case' h15 => wtm_at "ln"); (case' k15 => intro _ _ _ _ _))
  | ((with_reducible refine' g_ixL ?h16 ?a16 ?k16); (case' h16 => wtm_at "sl"); (case' a16 => wtm_at "at"))
  | ((with_reducible refine' g_ixT ?h17 ?a17 ?k17); (case' h17 => wtm_at "st"); (case' a17 => wtm_at "at"))
  | with_reducible refine' g_slice ?_
  | with_reducible refine' g_part ?_
  | with_reducible refine' g_kPart ?_
  | with_reducible refine' g_noPart ?_
  | ((with_reducible refine' g_slL ?h18 ?k18); (case' h18 => wtm_at "sl"); (case' k18 => intro _ _ _ _ _))
  | ((with_reducible refine' g_cat ?h119 ?h219 ?l19 ?k19); (case' h119 => wtm_at "hp"); (case' h219 => wtm_at "hp"); (case' l19 => wtm_at "ln"); (case' k19 => intro _ _ _ _ _))
  | ((with_reducible refine' g_rep ?h120 ?h220 ?h320 ?l20 ?k20); (case' h120 => wtm_at "hp"); (case' h220 => wtm_at "ln"); (case' h320 => wtm_at "ln"); (case' l20 => wtm_at "ln"); (case' k20 => intro _ _ _ _ _))
  | ((with_reducible refine' g_append ?h21 ?l21 ?k21); (case' h21 => wtm_at "hp"); (case' l21 => wtm_at "ln"); (case' k21 => intro _ _ _))
  | ((with_reducible refine' g_kBM ?h22 ?k22); (case' h22 => wtm_at "sl"))
  | ((with_reducible refine' g_kBM0 ?h23 ?k23); (case' h23 => wtm_at "sl"))
  | ((with_reducible refine' g_kL ?h24 ?k24); (case' h24 => wtm_at "sl"))
  | ((with_reducible refine' g_kR1 ?h125 ?h225 ?k25); (case' h125 => wtm_at "ln"); (case' h225 => wtm_at "ln"))
  | ((with_reducible refine' g_kR2 ?h126 ?h226 ?h326 ?h426 ?k26); (case' h126 => wtm_at "ln"); (case' h226 => wtm_at "ln"); (case' h326 => wtm_at "ln"); (case' h426 => wtm_at "ln"))
  | ((with_reducible refine' g_lenL ?h27 ?k27); (case' h27 => wtm_at "sl"))
  | ((with_reducible refine' g_lenT ?h28 ?k28); (case' h28 => wtm_at "st"))
  | ((with_reducible refine' g_listL ?h29 ?k29); (case' h29 => wtm_at "sl"); (case' k29 => intro _ _ _ _ _))
  | ((with_reducible refine' g_tupleL ?h30 ?k30); (case' h30 => wtm_at "sl"); (case' k30 => intro _ _ _ _ _))
  | with_reducible refine' g_max ?_
  | with_reducible refine' g_min ?_
  | with_reducible refine' g_intB ?_
  | with_reducible refine' g_fld ?_
  | with_reducible refine' g_put ?_
  | with_reducible refine' g_dget ?_
  | with_reducible refine' g_isN ?_
  | with_reducible refine' g_notN ?_
  | with_reducible refine' g_ifE ?_
  | with_reducible refine' g_andV ?_
  | with_reducible refine' g_orV ?_
  | with_reducible refine' g_notV ?_
  | with_reducible refine' g_kIf ?_
  | with_reducible refine' g_chain ?_
  | with_reducible refine' g_kCh ?_
  | with_reducible refine' g_sub ?_
  | ((with_reducible refine' g_setI ?h92 ?e92 ?j92 ?k92); (case' h92 => wtm_at "hp"); (case' e92 => first | exact rfl | assumption); (case' j92 => wtm_at "ln"); (case' k92 => intro _ _ _))
  | ((with_reducible refine' g_setL ?h89 ?i89 ?k89); (case' h89 => wtm_at "hp"); (case' i89 => exact ixE rfl (by wtm_at "ln")); (case' k89 => intro _ _ _))
  | ((with_reducible refine' g_gtup ?h93 ?e93 ?k93); (case' h93 => wtm_at "st"); (case' e93 => exact rfl))
  | with_reducible refine' g_gcons ?_
  | with_reducible refine' g_gnil ?_
  | with_reducible refine' g_par ?_
  | with_reducible refine' g_kPar ?_
  | with_reducible refine' g_meth ?_
  | with_reducible refine' g_bm ?_
  | with_reducible refine' g_bm0 ?_
  | with_reducible refine' g_raise ?_
  | with_reducible refine' g_for ?_
  | with_reducible refine' g_iR1 ?_
  | with_reducible refine' g_iR2 ?_
  | with_reducible refine' g_iL ?_
  | with_reducible refine' g_lc ?_
  | with_reducible refine' g_retN ?_
  | with_reducible refine' g_no (b := false) rfl ?_
  | with_reducible refine' g_yes (b := true) rfl ?_)
local macro_rules | `(tactic| wtm_at "go") => `(tactic| repeat (wtm_at "g1"))
local macro_rules | `(tactic| wtm_at "gs") => `(tactic| repeat ((fail_if_success (with_reducible refine' g_ifE ?_)); wtm_at "g1"))
local macro_rules | `(tactic| wtm_at "gi") => `(tactic| repeat ((fail_if_success (with_reducible refine' g_if ?_)); wtm_at "g1"))
local macro_rules | `(tactic| wtm_at "gr") => `(tactic| repeat ((fail_if_success (with_reducible refine' g_ret ?_)); wtm_at "g1"))
local macro_rules | `(tactic| wtm_at "gq") => `(tactic| repeat ((fail_if_success (with_reducible refine' g_asg ?_)); wtm_at "g1"))
/-! ### what something tells, or the word of its refusal -/
theorem Takes.len {X : Cx} {W : WX} (tk : Takes X W) : Takes X (fun cls d σ H => σ.length = X.N.length → W cls d σ H) := fun u s' ⟨a, B, sI, pins, σ, H, cls, d, e, I, nb, up, sky, na, os, ag, w⟩ =>
  tk u s' ⟨a, B, sI, pins, σ, H, cls, d, e, I, nb, up, sky, na, os, ag, w I.len⟩
section
variable {P : Program} {w : World} {K : PySem.W.Frag} {mg : Str → Option Value} {base : Heap}
def TKind (T : Tx K mg) : (XK → Hp → VK → Prop) → Hp → VK → Prop := fun tl H Q =>
  tl (fun cls d H' => ∃ r : Rf, cls = .ref (r.at T) ∧ d = none ∧ ∀ H'', Mx [] H' H'' → Q (.str r.word) H'') H (fun v H' => Q v H')
theorem Rf.kit (T : Tx K mg) : ∀ r r' : Rf, PySem.W.kitOne K (.ref (r.at T)) (.ref (r'.at T)) = some (decide (r = r'))
  | .down, .down => T.kt_Down_Down
  | .down, .up => T.kt_Down_Up
  | .down, .amount => T.kt_Down_BadAmount
  | .down, .code => T.kt_Down_BadCode
  | .down, .short => T.kt_Down_Short
  | .down, .bank => T.kt_Down_NoBank
  | .down, .number => T.kt_Down_BadNumber
  | .down, .meter => T.kt_Down_NoMeter
  | .up, .down => T.kt_Up_Down
  | .up, .up => T.kt_Up_Up
  | .up, .amount => T.kt_Up_BadAmount
  | .up, .code => T.kt_Up_BadCode
  | .up, .short => T.kt_Up_Short
  | .up, .bank => T.kt_Up_NoBank
  | .up, .number => T.kt_Up_BadNumber
  | .up, .meter => T.kt_Up_NoMeter
  | .amount, .down => T.kt_BadAmount_Down
  | .amount, .up => T.kt_BadAmount_Up
  | .amount, .amount => T.kt_BadAmount_BadAmount
  | .amount, .code => T.kt_BadAmount_BadCode
  | .amount, .short => T.kt_BadAmount_Short
  | .amount, .bank => T.kt_BadAmount_NoBank
  | .amount, .number => T.kt_BadAmount_BadNumber
  | .amount, .meter => T.kt_BadAmount_NoMeter
  | .code, .down => T.kt_BadCode_Down
  | .code, .up => T.kt_BadCode_Up
  | .code, .amount => T.kt_BadCode_BadAmount
  | .code, .code => T.kt_BadCode_BadCode
  | .code, .short => T.kt_BadCode_Short
  | .code, .bank => T.kt_BadCode_NoBank
  | .code, .number => T.kt_BadCode_BadNumber
  | .code, .meter => T.kt_BadCode_NoMeter
  | .short, .down => T.kt_Short_Down
  | .short, .up => T.kt_Short_Up
  | .short, .amount => T.kt_Short_BadAmount
  | .short, .code => T.kt_Short_BadCode
  | .short, .short => T.kt_Short_Short
  | .short, .bank => T.kt_Short_NoBank
  | .short, .number => T.kt_Short_BadNumber
  | .short, .meter => T.kt_Short_NoMeter
  | .bank, .down => T.kt_NoBank_Down
  | .bank, .up => T.kt_NoBank_Up
  | .bank, .amount => T.kt_NoBank_BadAmount
  | .bank, .code => T.kt_NoBank_BadCode
  | .bank, .short => T.kt_NoBank_Short
  | .bank, .bank => T.kt_NoBank_NoBank
  | .bank, .number => T.kt_NoBank_BadNumber
  | .bank, .meter => T.kt_NoBank_NoMeter
  | .number, .down => T.kt_BadNumber_Down
  | .number, .up => T.kt_BadNumber_Up
  | .number, .amount => T.kt_BadNumber_BadAmount
  | .number, .code => T.kt_BadNumber_BadCode
  | .number, .short => T.kt_BadNumber_Short
  | .number, .bank => T.kt_BadNumber_NoBank
  | .number, .number => T.kt_BadNumber_BadNumber
  | .number, .meter => T.kt_BadNumber_NoMeter
  | .meter, .down => T.kt_NoMeter_Down
  | .meter, .up => T.kt_NoMeter_Up
  | .meter, .amount => T.kt_NoMeter_BadAmount
  | .meter, .code => T.kt_NoMeter_BadCode
  | .meter, .short => T.kt_NoMeter_Short
  | .meter, .bank => T.kt_NoMeter_NoBank
  | .meter, .number => T.kt_NoMeter_BadNumber
  | .meter, .meter => T.kt_NoMeter_NoMeter
theorem Rf.exi (T : Tx K mg) (r : Rf) : ExI K (r.at T) T.E_FrankError := by
  cases r
  · exact T.i_Down
  · exact T.i_Up
  · exact T.i_BadAmount
  · exact T.i_BadCode
  · exact T.i_Short
  · exact T.i_NoBank
  · exact T.i_BadNumber
  · exact T.i_NoMeter
theorem g_isR (T : Tx K mg) {r r' : Rf} {a : Addr} {H : Hp} {Q : VK} (k : Q (.bl (decide (r = r'))) H) : rIsX K (.ref (r.at T)) none a [.ref a, .ref (r'.at T)] H Q := g_isX (r.exi T).c (r.kit T r') k
def Rf.bits (r : Rf) : List Bool := [decide (r = .bank), decide (r = .number), decide (r = .amount), decide (r = .code), decide (r = .short), decide (r = .down), decide (r = .up), decide (r = .meter)]
def Rf.pos : Rf → Nat
  | .bank => 0
  | .number => 1
  | .amount => 2
  | .code => 3
  | .short => 4
  | .down => 5
  | .up => 6
  | .meter => 7
theorem kind_gives {X : Cx} (T : Tx X.K X.mg) {cdv : Value} {q : Str} (hr : Room 2 X.A) : LamX.GivesTo X N__law_kind "_law_kind" (defScope s__law_kind) T.f__law_kind.a cdv (defBody s__law_kind) "_law_work" q (TKind T) := by
  intro f c' s H Q tl act hc h
  have hu65 : (X.A.deeper (envOfC "_law_kind" (defScope s__law_kind) s.heap.objs.size T.f__law_kind.a cdv)).units + 65 < cLine := Room.units65 (hr.deeper _)
  have hgl : Gl (cxOf C8.CX0 X.prog X.w X.K X.mg X.base N__law_kind "_law_kind" (defScope s__law_kind) T.f__law_kind.a cdv X.A X.stack s H C8.E0).nox "FrankError" := rfl
  refine ⟨_, pss_one (ps_try_as (X := (cxOf C8.CX0 X.prog X.w X.K X.mg X.base N__law_kind "_law_kind" (defScope s__law_kind) T.f__law_kind.a cdv X.A X.stack s H C8.E0).nox) (c := .ref T.E_FrankError) (i := 1)
      (tb := fun W D σ H => ∃ Ech : XK, (∀ cls d σ' H', Ech cls d H' → σ'.length = 4 → W cls d σ' H') ∧ σ[0]? = some (some (.ref f)) ∧ H c' = some (LamX.CodeO c' q) ∧ tl Ech H D.rt)
      rfl rfl sc__law_kind.nd rfl rfl ⟨hgl, rfl, .inl T.x_FrankError.g⟩ LamX.takes0 (fun W pn xe tk _ => ?_) (fun a oe cls d pn hz hf => (pss_cons (ps_set (i := 2) sc__law_kind.nd rfl (Or.inl rfl) (pe_lst (pa_cons (pe_callB (cIsX X.K hz hf) (by rfl) T.n_isinstance (by decide +kernel) (pa_cons (pv 1) (pa_cons (pe_glob (v := .ref T.E_NoBank) rfl T.x_NoBank.g rfl) pa_nil))) (pa_cons (pe_callB (cIsX X.K hz hf) (by rfl) T.n_isinstance (by decide +kernel) (pa_cons (pv 1) (pa_cons (pe_glob (v := .ref T.E_BadNumber) rfl T.x_BadNumber.g rfl) pa_nil))) (pa_cons (pe_callB (cIsX X.K hz hf) (by rfl) T.n_isinstance (by decide +kernel) (pa_cons (pv 1) (pa_cons (pe_glob (v := .ref T.E_BadAmount) rfl T.x_BadAmount.g rfl) pa_nil))) (pa_cons (pe_callB (cIsX X.K hz hf) (by rfl) T.n_isinstance (by decide +kernel) (pa_cons (pv 1) (pa_cons (pe_glob (v := .ref T.E_BadCode) rfl T.x_BadCode.g rfl) pa_nil))) pa_nil))))))
      (pss_cons (ps_set (i := 2) sc__law_kind.nd rfl (Or.inl rfl) (pe_op op_cat (pv 2) (pe_lst (pa_cons (pe_callB (cIsX X.K hz hf) (by rfl) T.n_isinstance (by decide +kernel) (pa_cons (pv 1) (pa_cons (pe_glob (v := .ref T.E_Short) rfl T.x_Short.g rfl) pa_nil))) (pa_cons (pe_callB (cIsX X.K hz hf) (by rfl) T.n_isinstance (by decide +kernel) (pa_cons (pv 1) (pa_cons (pe_glob (v := .ref T.E_Down) rfl T.x_Down.g rfl) pa_nil))) (pa_cons (pe_callB (cIsX X.K hz hf) (by rfl) T.n_isinstance (by decide +kernel) (pa_cons (pv 1) (pa_cons (pe_glob (v := .ref T.E_Up) rfl T.x_Up.g rfl) pa_nil))) (pa_cons (pe_callB (cIsX X.K hz hf) (by rfl) T.n_isinstance (by decide +kernel) (pa_cons (pv 1) (pa_cons (pe_glob (v := .ref T.E_NoMeter) rfl T.x_NoMeter.g rfl) pa_nil))) pa_nil)))))))
      (pss_cons (ps_set (i := 3) sc__law_kind.nd rfl (Or.inl rfl) (pe_lst (pa_cons pe_str (pa_cons pe_str (pa_cons pe_str (pa_cons pe_str (pa_cons pe_str (pa_cons pe_str (pa_cons pe_str (pa_cons pe_str pa_nil))))))))))
      (pss_cons (ps_if (PW.pt (pw_or (pt_cmpR op_ne (bmK X.K PySem.F.plainAttrs_list PySem.F.slot_list_count PySem.F.type_list_count (mtCountF X.K) (pv 2) (pa_cons pe_bl pa_nil)) pe_int (by first | exact nomark _ | rfl)) (pw_or1 (pt_not (pt_val (pe_callB (cIsX X.K hz hf) (by rfl) T.n_isinstance (by decide +kernel) (pa_cons (pv 1) (pa_cons (pe_bltn (v := .ty "ValueError") (by rfl) T.n_ValueError (by decide +kernel) rfl) pa_nil)))))))) (pss_one (ps_ret pe_str)) pss_nil)
      (pss_one (ps_ret (pe_ix (ixL X.K) (pv 3) (bmK X.K PySem.F.plainAttrs_list PySem.F.slot_list_index PySem.F.type_list_index (mtIndexD X.K hu65) (pv 2) (pa_cons pe_bl pa_nil)) (fun _ _ => rfl)))))))))), ?_⟩
  · refine ⟨fun pins s' σ H' D I h' => ?_⟩
    obtain ⟨Ech, hW, h1, h2, h3⟩ := h'
    exact (pss_one (ps_ret (act _ pn xe Ech _ _ (Takes.len tk) hW))).run pins s' σ H' D I ⟨h1, h2, h3⟩
  · refine ⟨fun cls d H' => ∃ r : Rf, cls = .ref (r.at T) ∧ d = none ∧ ∀ H'', Mx [] H' H'' → Q (.str r.word) H'', fun cls d σ' H' ⟨r, e1, e2, k⟩ hl => ?_, rfl, hc, h⟩
    subst e1 e2
    refine ⟨true, (r.exi T).exm T.x_FrankError T.hd_FrankError, fun _ a na => ?_, fun z => by cases z⟩
    match σ', hl with
    | [x0, x1, x2, x3], _ =>
      wtm_at "go"
      refine g_isR T (r' := .bank) ?_
      wtm_at "go"
      refine g_isR T (r' := .number) ?_
      wtm_at "go"
      refine g_isR T (r' := .amount) ?_
      wtm_at "go"
      refine g_isR T (r' := .code) ?_
      wtm_at "go"
      rename_i l1 H1 n1 m1 e1
      refine g_isR T (r' := .short) ?_
      wtm_at "go"
      refine g_isR T (r' := .down) ?_
      wtm_at "go"
      refine g_isR T (r' := .up) ?_
      wtm_at "go"
      refine g_isR T (r' := .meter) ?_
      wtm_at "go"
      rename_i l2 H2 n2 m2 e2 l3 H3 n3 m3 e3 l4 H4 n4 m4 e4
      have e3' : H4 l3 = some (.lst (r.bits.map V.bl)) := m4.get0 e3
      have mm : Mx [] H' H4 := ((m1.trans m2).trans m3).trans m4
      refine g_cntB (SqL.of e3') (n := 1) (by cases r <;> rfl) ?_
      wtm_at "go"
      refine g_no (by decide) ?_
      wtm_at "go"
      refine g_isXt (r.exi T).c (r.exi T).ve ?_
      wtm_at "go"
      refine g_no (by decide) ?_
      wtm_at "go"
      refine g_ixB (j := r.pos) (SqL.of e3') (by cases r <;> rfl) (fun m hm => ?_) ?_
      · have : r.pos < 8 := by cases r <;> decide
        match m, hm with
        | 0, hm => revert hm; cases r <;> decide
        | 1, hm => revert hm; cases r <;> decide
        | 2, hm => revert hm; cases r <;> decide
        | 3, hm => revert hm; cases r <;> decide
        | 4, hm => revert hm; cases r <;> decide
        | 5, hm => revert hm; cases r <;> decide
        | 6, hm => revert hm; cases r <;> decide
        | m + 7, hm => omega
      · refine g_ixL (v := .str r.word) (SqL.of e4) (by cases r <;> exact rfl) ?_
        exact k _ mm
end
end Fk
namespace Fk
open PySem PySem.Spec PyProof.Rows L2
local macro_rules | `(tactic| wtm_at "ln") => `(tactic| first
  | omega
  | (simp only [List.length_cons, List.length_nil, List.length_map, List.length_append, List.length_replicate, List.length_take, List.length_drop, List.length_set]; omega)
  | (with_unfolding_all exact (by decide)))
local macro_rules | `(tactic| wtm_at "ar") => `(tactic| first
  | ((with_reducible show CMulW _ _); (refine' mulS ?_ ?_ <;> omega))
  | ((with_reducible show CDivW _ _); (refine' divS ?_ ?_ <;> omega))
  | ((with_reducible show CPow _ _); exact ⟨by decide, by decide, by decide⟩)
  | (show (0 : Int) < _; omega)
  | (with_unfolding_all exact (by decide)))
local macro_rules | `(tactic| wtm_at "at") => `(tactic| first
  | assumption
  | (refine' cl_atE ?e80 ?h80; (case' e80 => first | exact rfl | assumption); (case' h80 => wtm_at "ln"))
  | exact rfl)
local macro_rules | `(tactic| wtm_at "fr") => `(tactic| first
  | assumption
  | ((with_reducible refine' Mx.free0 ?m99 ?h99); (case' h99 => assumption); (case' m99 => wtm_at "mo")))
local macro_rules | `(tactic| wtm_at "hp") => `(tactic| first
  | assumption
  | ((with_reducible refine' Mx.get0 ?m1 ?h1); (case' m1 => assumption); (case' h1 => wtm_at "hp"))
  | ((with_reducible refine' Mx.get ?m2 ?n2 ?h2); (case' m2 => assumption); (case' n2 => wtm_at "nin"); (case' h2 => wtm_at "hp")))
local macro_rules | `(tactic| wtm_at "sl") => `(tactic| first
  | assumption
  | ((with_reducible refine' Mx.sqL0 ?m96 ?h96); (case' h96 => assumption); (case' m96 => wtm_at "mo"))
  | (refine' SqL.of ?h3; (case' h3 => wtm_at "hp"))
  | ((with_reducible refine' Mx.sqL0 ?m4 ?h4); (case' m4 => assumption); (case' h4 => wtm_at "sl"))
  | ((with_reducible refine' Mx.sqL ?m5 ?n5 ?h5); (case' m5 => assumption); (case' n5 => wtm_at "nin"); (case' h5 => wtm_at "sl")))
local macro_rules | `(tactic| wtm_at "st") => `(tactic| first
  | assumption
  | ((with_reducible refine' Mx.sqT0 ?m97 ?h97); (case' h97 => assumption); (case' m97 => wtm_at "mo"))
  | (refine' SqT.of ?h6; (case' h6 => wtm_at "hp"))
  | ((with_reducible refine' Mx.sqT0 ?m7 ?h7); (case' m7 => assumption); (case' h7 => wtm_at "st"))
  | ((with_reducible refine' Mx.sqT ?m8 ?n8 ?h8); (case' m8 => assumption); (case' n8 => wtm_at "nin"); (case' h8 => wtm_at "st")))
local macro_rules | `(tactic| wtm_at "mx") => `(tactic| first
  | assumption
  | exact Mx.refl
  | ((with_reducible refine' Mx.of0 ?h9); (case' h9 => assumption))
  | ((with_reducible refine' Mx.trans ?h10 ?m10); (case' m10 => first | assumption | ((with_reducible refine' Mx.of0 ?q10); (case' q10 => assumption))); (case' h10 => wtm_at "mx")))
local macro_rules | `(tactic| wtm_at "mo") => `(tactic| first
  | wtm_at "mx"
  | ((with_reducible refine' Mx.own ?m90 ?f90 ?k90); (case' k90 => assumption); (case' f90 => wtm_at "fr"); (case' m90 => wtm_at "mo"))
  | ((with_reducible refine' Mx.trans ?h91 ?m91); (case' m91 => first | assumption | ((with_reducible refine' Mx.of0 ?q91); (case' q91 => assumption))); (case' h91 => wtm_at "mo")))
local macro_rules | `(tactic| wtm_at "ne") => `(tactic| first
  | assumption
  | exact Ne.symm (by assumption)
  | ((with_reducible refine' ne_of_none ?x94 ?y94); (case' y94 => assumption); (case' x94 => wtm_at "hp"))
  | ((with_reducible refine' Ne.symm (ne_of_none ?x95 ?y95)); (case' y95 => assumption); (case' x95 => wtm_at "hp")))
local macro_rules | `(tactic| wtm_at "nin") => `(tactic| first
  | assumption
  | exact List.not_mem_nil
  | ((with_reducible refine' List.not_mem_cons_of_ne_of_not_mem ?h98 ?t98); (case' h98 => wtm_at "ne"); (case' t98 => wtm_at "nin")))
local macro_rules | `(tactic| wtm_at "g1") => `(tactic| first
  | ((with_reducible refine' g_var ?h11 ?k11); (case' h11 => exact rfl))
  | with_reducible refine' g_c ?_
  | with_reducible refine' g_op ?_
  | with_reducible refine' g_I0 ?_
  | ((with_reducible refine' g_I ?c12 ?k12); (case' c12 => wtm_at "ar"))
  | with_reducible refine' g_cons ?_
  | with_reducible refine' g_nil ?_
  | with_reducible refine' g_seq ?_
  | with_reducible refine' g_asg ?_
  | with_reducible refine' g_name ?_
  | with_reducible refine' g_ret ?_
  | with_reducible refine' g_if ?_
  | with_reducible refine' g_test ?_
  | with_reducible refine' g_tB ?_
  | with_reducible refine' g_bl ?_
  | ((with_reducible refine' g_eq ?h13 ?k13); (case' h13 => exact rfl))
  | ((with_reducible refine' g_ne ?h14 ?k14); (case' h14 => exact rfl))
  | with_reducible refine' g_CB ?_
  | with_reducible refine' g_call ?_
  | with_reducible refine' g_drop ?_
  | with_reducible refine' g_next ?_
  | with_reducible refine' g_not ?_
  | with_reducible refine' g_and ?_
  | with_reducible refine' g_or ?_
  | with_reducible refine' g_un ?_
  | with_reducible refine' g_U ?_
  | with_reducible refine' g_tup ?_
  | with_reducible refine' g_lst ?_
  | ((with_reducible refine' g_kNew ?h15 ?k15); (case' h15 => wtm_at "ln"); (case' k15 => intro _ _ _ _ _))
  | ((with_reducible refine' g_ixL ?h16 ?a16 ?k16); (case' h16 => wtm_at "sl"); (case' a16 => wtm_at "at"))
  | ((with_reducible refine' g_ixT ?h17 ?a17 ?k17); (case' h17 => wtm_at "st"); (case' a17 => wtm_at "at"))
  | with_reducible refine' g_slice ?_
  | with_reducible refine' g_part ?_
  | with_reducible refine' g_kPart ?_
  | with_reducible refine' g_noPart ?_
  | ((with_reducible refine' g_slL ?h18 ?k18); (case' h18 => wtm_at "sl"); (case' k18 => intro _ _ _ _ _))
  | ((with_reducible refine' g_cat ?h119 ?h219 ?l19 ?k19); (case' h119 => wtm_at "hp"); (case' h219 => wtm_at "hp"); (case' l19 => wtm_at "ln"); (case' k19 => intro _ _ _ _ _))
  | ((with_reducible refine' g_rep ?h120 ?h220 ?h320 ?l20 ?k20); (case' h120 => wtm_at "hp"); (case' h220 => wtm_at "ln"); (case' h320 => wtm_at "ln"); (case' l20 => wtm_at "ln"); (case' k20 => intro _ _ _ _ _))
  | ((with_reducible refine' g_append ?h21 ?l21 ?k21); (case' h21 => wtm_at "hp"); (case' l21 => wtm_at "ln"); (case' k21 => intro _ _ _))
  | ((with_reducible refine' g_kBM ?h22 ?k22); (case' h22 => wtm_at "sl"))
  | ((with_reducible refine' g_kBM0 ?h23 ?k23); (case' h23 => wtm_at "sl"))
  | ((with_reducible refine' g_kL ?h24 ?k24); (case' h24 => wtm_at "sl"))
  | ((with_reducible refine' g_kR1 ?h125 ?h225 ?k25); (case' h125 => wtm_at "ln"); (case' h225 => wtm_at "ln"))
  | ((with_reducible refine' g_kR2 ?h126 ?h226 ?h326 ?h426 ?k26); (case' h126 => wtm_at "ln"); (case' h226 => wtm_at "ln"); (case' h326 => wtm_at "ln"); (case' h426 => wtm_at "ln"))
  | ((with_reducible refine' g_lenL ?h27 ?k27); (case' h27 => wtm_at "sl"))
  | ((with_reducible refine' g_lenT ?h28 ?k28); (case' h28 => wtm_at "st"))
  | ((with_reducible refine' g_listL ?h29 ?k29); (case' h29 => wtm_at "sl"); (case' k29 => intro _ _ _ _ _))
  | ((with_reducible refine' g_tupleL ?h30 ?k30); (case' h30 => wtm_at "sl"); (case' k30 => intro _ _ _ _ _))
  | with_reducible refine' g_max ?_
  | with_reducible refine' g_min ?_
  | with_reducible refine' g_intB ?_
  | with_reducible refine' g_fld ?_
  | with_reducible refine' g_put ?_
  | with_reducible refine' g_dget ?_
  | with_reducible refine' g_isN ?_
  | with_reducible refine' g_notN ?_
  | with_reducible refine' g_ifE ?_
  | with_reducible refine' g_andV ?_
  | with_reducible refine' g_orV ?_
  | with_reducible refine' g_notV ?_
  | with_reducible refine' g_kIf ?_
  | with_reducible refine' g_chain ?_
  | with_reducible refine' g_kCh ?_
  | with_reducible refine' g_sub ?_
  | ((with_reducible refine' g_setI ?h92 ?e92 ?j92 ?k92); (case' h92 => wtm_at "hp"); (case' e92 => first | exact rfl | assumption); (case' j92 => wtm_at "ln"); (case' k92 => intro _ _ _))
  | ((with_reducible refine' g_setL ?h89 ?i89 ?k89); (case' h89 => wtm_at "hp"); (case' i89 => exact ixE rfl (by wtm_at "ln")); (case' k89 => intro _ _ _))
  | ((with_reducible refine' g_gtup ?h93 ?e93 ?k93); (case' h93 => wtm_at "st"); (case' e93 => exact rfl))
  | with_reducible refine' g_gcons ?_
  | with_reducible refine' g_gnil ?_
  | with_reducible refine' g_par ?_
  | with_reducible refine' g_kPar ?_
  | with_reducible refine' g_meth ?_
  | with_reducible refine' g_bm ?_
  | with_reducible refine' g_bm0 ?_
  | with_reducible refine' g_raise ?_
  | with_reducible refine' g_for ?_
  | with_reducible refine' g_iR1 ?_
  | with_reducible refine' g_iR2 ?_
  | with_reducible refine' g_iL ?_
  | with_reducible refine' g_lc ?_
  | with_reducible refine' g_retN ?_
  | with_reducible refine' g_no (b := false) rfl ?_
  | with_reducible refine' g_yes (b := true) rfl ?_)
local macro_rules | `(tactic| wtm_at "go") => `(tactic| repeat (wtm_at "g1"))
local macro_rules | `(tactic| wtm_at "gs") => `(tactic| repeat ((fail_if_success (with_reducible refine' g_ifE ?_)); wtm_at "g1"))
local macro_rules | `(tactic| wtm_at "gi") => `(tactic| repeat ((fail_if_success (with_reducible refine' g_if ?_)); wtm_at "g1"))
local macro_rules | `(tactic| wtm_at "gr") => `(tactic| repeat ((fail_if_success (with_reducible refine' g_ret ?_)); wtm_at "g1"))
local macro_rules | `(tactic| wtm_at "gq") => `(tactic| repeat ((fail_if_success (with_reducible refine' g_asg ?_)); wtm_at "g1"))
/-! ### the law -/
section
variable {K : PySem.W.Frag} {H H1 H0 : Hp}
theorem extn_at (e : LamX.ExtN H H1) {a : Addr} {o : HO} (h : H a = some o) (n : ∀ ps, o ≠ .tbl ps) : H1 a = some o := e a o h n
theorem extn_sqL (e : LamX.ExtN H H1) {a : Addr} {xs : List V} (h : SqL K H a xs) : SqL K H1 a xs := by
  rcases h with (h | ⟨o, h⟩) | h
  · exact .inl (.inl (e _ _ h fun _ z => nomatch z))
  · exact .inl (.inr ⟨o, e _ _ h fun _ z => nomatch z⟩)
  · exact .inr h
theorem extn_sqT (e : LamX.ExtN H H1) {a : Addr} {xs : List V} (h : SqT K H a xs) : SqT K H1 a xs := by
  rcases h with (h | ⟨o, h⟩) | h
  · exact .inl (.inl (e _ _ h fun _ z => nomatch z))
  · exact .inl (.inr ⟨o, e _ _ h fun _ z => nomatch z⟩)
  · exact .inr h
mutual
theorem extn_dp (e : LamX.ExtN H H1) : ∀ {v : V} {d : PyData}, Dp K H v d → Dp K H1 v d
  | _, _, .non => .non
  | _, _, .bl b => .bl b
  | _, _, .int i => .int i
  | _, _, .str x => .str x
  | _, _, .lst h a => .lst (extn_sqL e h) (extn_dpA e a)
  | _, _, .tup h a => .tup (extn_sqT e h) (extn_dpA e a)
theorem extn_dpA (e : LamX.ExtN H H1) : ∀ {vs : List V} {ds : List PyData}, DpAll K H vs ds → DpAll K H1 vs ds
  | _, _, .nil => .nil
  | _, _, .cons h r => .cons (extn_dp e h) (extn_dpA e r)
end
theorem MetAt.extn {C p pm pp : Addr} {μ : Mt} (M : MetAt K C H p pm pp μ) (e : LamX.ExtN H H1) : MetAt K C H1 p pm pp μ := by
  obtain ⟨⟨dx, ob⟩, me, ⟨vs, pr, dp⟩, ne⟩ := M
  exact ⟨⟨dx, e _ _ ob fun _ z => nomatch z⟩, e _ _ me (fun _ z => nomatch z), ⟨vs, e _ _ pr (fun _ z => nomatch z), extn_dpA e dp⟩, ne⟩
theorem LmAt.extn {q qc qs : Addr} {μ : Mt} (M : LmAt K H q qc qs μ) (e : LamX.ExtN H H1) : LmAt K H1 q qc qs μ := by
  obtain ⟨ob, me, ⟨vs, pr, dp⟩, ne⟩ := M
  exact ⟨e _ _ ob (fun _ z => nomatch z), e _ _ me (fun _ z => nomatch z), ⟨vs, e _ _ pr (fun _ z => nomatch z), extn_dpA e dp⟩, ne⟩
theorem DdAt.extn {t : Addr} {d : Dd} (h : DdAt H t d) (e : LamX.ExtN H H1) : DdAt H1 t d := by
  cases d with
  | stamp a => exact e _ _ h fun _ z => nomatch z
  | back a => exact e _ _ h fun _ z => nomatch z
  | up => exact e _ _ h fun _ z => nomatch z
  | top z => obtain ⟨c, h1, h2⟩ := h; exact ⟨c, e _ _ h1 (fun _ z => nomatch z), e _ _ h2 fun _ z => nomatch z⟩
/-- a heap without tables -/
def NoTbl (H0 : Hp) : Prop := ∀ b o, H0 b = some o → ∀ ps, o ≠ .tbl ps
theorem StAt.extn {r : Addr} (s : StAt K H0 H r) (n : NoTbl H0) (e : LamX.ExtN H H1) : StAt K H0 H1 r := by
  obtain ⟨⟨a, ns, i, m, l, h, q⟩, fr, mx⟩ := s
  exact ⟨⟨a, ns, i, m, l, e _ _ h (fun _ z => nomatch z), q⟩, fr, fun b o hb _ => e b o (mx.get0 hb) (n b o hb)⟩
/-- drawing asks for the script alone -/
theorem StAt.cut {r : Addr} (s : StAt K H H1 r) : ∃ H0, (∀ x, H x = none → H0 x = none) ∧ NoTbl H0 ∧ StAt K H0 H1 r := by
  obtain ⟨⟨a, ns, i, m, l, h, hS, q⟩, fr, mx⟩ := s
  have hnt : (∃ o, H a = some o ∧ (∀ ps, o ≠ .tbl ps) ∧ SqL K (fun b => if b = a then some o else none) a (ns.map V.int)) ∨ SqL K (fun _ => none) a (ns.map V.int) := by
    rcases hS with (h | ⟨o, h⟩) | h
    · exact .inl ⟨_, h, (fun _ z => nomatch z), .inl (.inl (if_pos rfl))⟩
    · exact .inl ⟨_, h, (fun _ z => nomatch z), .inl (.inr ⟨o, if_pos rfl⟩)⟩
    · exact .inr (.inr h)
  rcases hnt with ⟨o, ho, no, hS'⟩ | hS'
  · refine ⟨fun b => if b = a then some o else none, fun x hx => if_neg (fun z => by rw [z, ho] at hx; cases hx), fun b o' hb => ?_, ⟨a, ns, i, m, l, h, hS', q⟩, if_neg (fun z => by rw [z, ho] at fr; cases fr), fun b o' hb _ => ?_⟩
    · have hb : (if b = a then some o else none) = some o' := hb
      split at hb
      · cases hb; exact no
      · cases hb
    · have hb : (if b = a then some o else none) = some o' := hb
      split at hb
      · rename_i z
        cases hb
        rw [z]
        exact mx.get0 ho
      · cases hb
  · exact ⟨fun _ => none, fun _ _ => rfl, fun _ _ z => (nomatch z), ⟨a, ns, i, m, l, h, hS', q⟩, rfl, fun _ _ z => (nomatch z)⟩
/-- what is written is no table, no code object -/
def NoX (H : Hp) (S : List Addr) : Prop := ∀ x ∈ S, ∀ o, H x = some o → (∀ ps, o ≠ .tbl ps) ∧ ∀ f, o ≠ .ext f
theorem Tabs.mx {T : List (Addr × Str)} {S : List Addr} (t : LamX.Tabs T H) (m : Mx S H H1) (n : NoX H S) : LamX.Tabs T H1 := fun p hp => by
  obtain ⟨ps, h1, h2, h3⟩ := t p hp
  refine ⟨ps, m _ _ h1 fun z => (n _ z _ h1).1 ps rfl, h2, fun pos cv hc => ?_⟩
  obtain ⟨c, e1, e2⟩ := h3 pos cv hc
  exact ⟨c, e1, m _ _ e2 fun z => (n _ z _ e2).2 _ rfl⟩
theorem Tabs.mx0 {T : List (Addr × Str)} (t : LamX.Tabs T H) (m : Mx [] H H1) : LamX.Tabs T H1 := Tabs.mx t m fun _ z => by simp at z
theorem noX_lst {a : Addr} {xs : List V} (h : H a = some (.lst xs)) : ∀ o, H a = some o → (∀ ps, o ≠ .tbl ps) ∧ ∀ f, o ≠ .ext f := fun o e => by
  rw [h] at e; cases e; exact ⟨(fun _ z => nomatch z), (fun _ z => nomatch z)⟩
theorem noX_dK {a : Addr} {xs : List (Key × V)} (h : H a = some (.dK xs)) : ∀ o, H a = some o → (∀ ps, o ≠ .tbl ps) ∧ ∀ f, o ≠ .ext f := fun o e => by
  rw [h] at e; cases e; exact ⟨(fun _ z => nomatch z), (fun _ z => nomatch z)⟩
theorem noX_ins {a C dx : Addr} {fs : List (Str × V)} (h : H a = some (.ins C dx fs)) : ∀ o, H a = some o → (∀ ps, o ≠ .tbl ps) ∧ ∀ f, o ≠ .ext f := fun o e => by
  rw [h] at e; cases e; exact ⟨(fun _ z => nomatch z), (fun _ z => nomatch z)⟩
theorem StAt.nx {r : Addr} (s : StAt K H0 H r) : NoX H [r] := by
  obtain ⟨_, _, _, _, _, h, _⟩ := s.ex
  intro x hx
  simp at hx
  subst hx
  exact noX_lst h
theorem LmAt.nx {q qc qs : Addr} {μ : Mt} (M : LmAt K H q qc qs μ) : NoX H [q, qc, qs] := by
  obtain ⟨ob, ce, ⟨vs, st, dp⟩, ne⟩ := M
  intro x hx
  simp only [List.mem_cons, List.not_mem_nil, or_false] at hx
  rcases hx with rfl | rfl | rfl
  · exact noX_dK ob
  · exact noX_lst ce
  · exact noX_lst st
theorem MetAt.nx {C p pm pp : Addr} {μ : Mt} (M : MetAt K C H p pm pp μ) : NoX H [p, pm, pp] := by
  obtain ⟨⟨dx, ob⟩, me, ⟨vs, pr, dp⟩, ne⟩ := M
  intro x hx
  simp only [List.mem_cons, List.not_mem_nil, or_false] at hx
  rcases hx with rfl | rfl | rfl
  · exact noX_ins ob
  · exact noX_lst me
  · exact noX_lst pr
theorem LmAt.nt {q qc qs : Addr} {μ : Mt} (M : LmAt K H q qc qs μ) : NoTup H [q, qc, qs] := by
  obtain ⟨ob, ce, ⟨vs, st, dp⟩, ne⟩ := M
  exact (noTupD ob).cons ((noTup1 ce).cons (noTup1 st))
theorem MetAt.nt {C p pm pp : Addr} {μ : Mt} (M : MetAt K C H p pm pp μ) : NoTup H [p, pm, pp] := by
  obtain ⟨⟨dx, ob⟩, me, ⟨vs, pr, dp⟩, ne⟩ := M
  exact (noTupI ob).cons ((noTup1 me).cons (noTup1 pr))
theorem due_frz (μ : Mt) (d : Dd) (cut : Option Nat) : frz (dueM μ d cut).1 = true ∧ okD (dueM μ d cut).1 = true ∧ (dueM μ d cut).1.depth < 8 := by
  have hc : ∀ z : Cd, frz (cdD z) = true ∧ okD (cdD z) = true ∧ (cdD z).depth < 8 := fun z => ⟨rfl, rfl, by simp [cdD, PyData.depth, PyData.depthAll]⟩
  have h0 : frz PyData.none = true ∧ okD PyData.none = true ∧ PyData.none.depth < 8 := by decide +kernel
  have hb : ∀ b, frz (PyData.bool b) = true ∧ okD (PyData.bool b) = true ∧ (PyData.bool b).depth < 8 := by decide +kernel
  have hi : ∀ i, frz (PyData.int i) = true ∧ okD (PyData.int i) = true ∧ (PyData.int i).depth < 8 := fun i => ⟨rfl, rfl, by simp [PyData.depth]⟩
  have hs : ∀ s, frz (PyData.str s) = true ∧ okD (PyData.str s) = true ∧ (PyData.str s).depth < 8 := fun i => ⟨rfl, rfl, by simp [PyData.depth]⟩
  by_cases hd : d = .up
  · subst hd
    by_cases hu : μ.up = true
    · have e : dueM μ .up cut = (.str "Up", μ) := if_pos hu
      rw [e]
      exact hs _
    · cases eo : owed μ with
      | none =>
        have e : dueM μ .up cut = (.bool true, { μ with up := true }) := by simp [dueM, hu, eo]
        rw [e]
        exact hb _
      | some s =>
        by_cases h0' : cut = some 0
        · have e : dueM μ .up cut = (.none, μ) := by simp [dueM, hu, eo, h0']
          rw [e]
          exact h0
        · have e : dueM μ .up cut = (.bool true, { μ with stamps := μ.stamps ++ [s], up := true }) := by simp [dueM, hu, eo, h0']
          rw [e]
          exact hb _
  · cases hr : refR μ d with
    | some r => rw [dueM_ref hd hr]; exact hs _
    | none =>
      rw [dueM_run hd hr]
      show frz (if _ then _ else _) = true ∧ okD (if _ then _ else _) = true ∧ (if _ then _ else _ : PyData).depth < 8
      split
      · cases d with
        | stamp a => exact hi _
        | back a => exact hc _
        | top z => exact hi _
        | up => exact h0
      · exact h0
end
/-- _law_kind(lambda: ..) -/
theorem q_kind {X : Cx} {K : PySem.W.Frag} {mg : Str → Option Value} (T : Tx K mg) {c Pt : Addr} {k : Nat} {params : Arguments} {body : Expr} {scope : Scope} {t : XK → TE} {p lpos pos : Pos} (TB : LamX.TabB X.base X.mg c Pt) (hcode : X.env.code = .ref c) (hr : Room (k + 2) X.A)
    (L : LamX.LamS X.env.scope scope) (hdef : defaultsOf params X.env = ([], [])) (hbind : ∀ (q : Str) (cl : List (Str × Addr)) (pm cv ctv : Value), bindArgs (PySem.W.kla_fn "<lambda>" q params body scope cl pm cv ctv) ⟨[], []⟩ = pure [])
    (hbody : ∀ (A : Around) (outer : List Env) (s : Shared) (H : Hp) (E : XK) (f c' : Addr), Room k (A.deeper (LamX.lamEnv X scope s.heap.objs.size f c')) → PE (LamX.lamCx X A outer s H E scope f c') body (t E)) (hg : Gl X "_law_kind") (hK : X.K = K := by rfl) (hm : X.mg = mg := by rfl) :
    PE X (.Call (.Name "_law_kind" p) [.Lambda params body scope lpos] [] pos) (LamX.tLam [(Pt, X.env.qual ++ "<lambda>")] (TKind T) t) := by
  subst hK hm
  obtain ⟨oc, od, kV, doc, pm, an, cdv, ct, osl, hd, lk, hcd⟩ := T.f__law_kind.F.ex
  have hb := T.f__law_kind.b
  rw [hd] at lk hb
  exact LamX.pe_lamcall (k := k) (Ng := N__law_kind) hg T.f__law_kind.g T.f__law_kind.F.kp lk hcd hb sc__law_kind rfl (.inl rfl) (kind_gives T (hr.mono (by omega))) TB hcode (List.mem_singleton.mpr rfl) (fun p hp _ => by rw [List.mem_singleton.mp hp]) hr L hdef hbind hbody
end Fk
namespace Fk
open PySem PySem.Spec PyProof.Rows L2
local macro_rules | `(tactic| wtm_at "ln") => `(tactic| first
  | omega
  | (simp only [List.length_cons, List.length_nil, List.length_map, List.length_append, List.length_replicate, List.length_take, List.length_drop, List.length_set]; omega)
  | (with_unfolding_all exact (by decide)))
local macro_rules | `(tactic| wtm_at "ar") => `(tactic| first
  | ((with_reducible show CMulW _ _); (refine' mulS ?_ ?_ <;> omega))
  | ((with_reducible show CDivW _ _); (refine' divS ?_ ?_ <;> omega))
  | ((with_reducible show CPow _ _); exact ⟨by decide, by decide, by decide⟩)
  | (show (0 : Int) < _; omega)
  | (with_unfolding_all exact (by decide)))
local macro_rules | `(tactic| wtm_at "at") => `(tactic| first
  | assumption
  | (refine' cl_atE ?e80 ?h80; (case' e80 => first | exact rfl | assumption); (case' h80 => wtm_at "ln"))
  | exact rfl)
local macro_rules | `(tactic| wtm_at "fr") => `(tactic| first
  | assumption
  | ((with_reducible refine' Mx.free0 ?m99 ?h99); (case' h99 => assumption); (case' m99 => wtm_at "mo")))
local macro_rules | `(tactic| wtm_at "hp") => `(tactic| first
  | assumption
  | ((with_reducible refine' Mx.get0 ?m1 ?h1); (case' m1 => assumption); (case' h1 => wtm_at "hp"))
  | ((with_reducible refine' Mx.get ?m2 ?n2 ?h2); (case' m2 => assumption); (case' n2 => wtm_at "nin"); (case' h2 => wtm_at "hp")))
local macro_rules | `(tactic| wtm_at "sl") => `(tactic| first
  | assumption
  | ((with_reducible refine' Mx.sqL0 ?m96 ?h96); (case' h96 => assumption); (case' m96 => wtm_at "mo"))
  | (refine' SqL.of ?h3; (case' h3 => wtm_at "hp"))
  | ((with_reducible refine' Mx.sqL0 ?m4 ?h4); (case' m4 => assumption); (case' h4 => wtm_at "sl"))
  | ((with_reducible refine' Mx.sqL ?m5 ?n5 ?h5); (case' m5 => assumption); (case' n5 => wtm_at "nin"); (case' h5 => wtm_at "sl")))
local macro_rules | `(tactic| wtm_at "st") => `(tactic| first
  | assumption
  | ((with_reducible refine' Mx.sqT0 ?m97 ?h97); (case' h97 => assumption); (case' m97 => wtm_at "mo"))
  | (refine' SqT.of ?h6; (case' h6 => wtm_at "hp"))
  | ((with_reducible refine' Mx.sqT0 ?m7 ?h7); (case' m7 => assumption); (case' h7 => wtm_at "st"))
  | ((with_reducible refine' Mx.sqT ?m8 ?n8 ?h8); (case' m8 => assumption); (case' n8 => wtm_at "nin"); (case' h8 => wtm_at "st")))
local macro_rules | `(tactic| wtm_at "mx") => `(tactic| first
  | assumption
  | exact Mx.refl
  | ((with_reducible refine' Mx.of0 ?h9); (case' h9 => assumption))
  | ((with_reducible refine' Mx.trans ?h10 ?m10); (case' m10 => first | assumption | ((with_reducible refine' Mx.of0 ?q10); (case' q10 => assumption))); (case' h10 => wtm_at "mx")))
local macro_rules | `(tactic| wtm_at "mo") => `(tactic| first
  | wtm_at "mx"
  | ((with_reducible refine' Mx.own ?m90 ?f90 ?k90); (case' k90 => assumption); (case' f90 => wtm_at "fr"); (case' m90 => wtm_at "mo"))
  | ((with_reducible refine' Mx.trans ?h91 ?m91); (case' m91 => first | assumption | ((with_reducible refine' Mx.of0 ?q91); (case' q91 => assumption))); (case' h91 => wtm_at "mo")))
local macro_rules | `(tactic| wtm_at "ne") => `(tactic| first
  | assumption
  | exact Ne.symm (by assumption)
  | ((with_reducible refine' ne_of_none ?x94 ?y94); (case' y94 => assumption); (case' x94 => wtm_at "hp"))
  | ((with_reducible refine' Ne.symm (ne_of_none ?x95 ?y95)); (case' y95 => assumption); (case' x95 => wtm_at "hp")))
local macro_rules | `(tactic| wtm_at "nin") => `(tactic| first
  | assumption
  | exact List.not_mem_nil
  | ((with_reducible refine' List.not_mem_cons_of_ne_of_not_mem ?h98 ?t98); (case' h98 => wtm_at "ne"); (case' t98 => wtm_at "nin")))
local macro_rules | `(tactic| wtm_at "g1") => `(tactic| first
  | ((with_reducible refine' g_var ?h11 ?k11); (case' h11 => exact rfl))
  | with_reducible refine' g_c ?_
  | with_reducible refine' g_op ?_
  | with_reducible refine' g_I0 ?_
  | ((with_reducible refine' g_I ?c12 ?k12); (case' c12 => wtm_at "ar"))
  | with_reducible refine' g_cons ?_
  | with_reducible refine' g_nil ?_
  | with_reducible refine' g_seq ?_
  | with_reducible refine' g_asg ?_
  | with_reducible refine' g_name ?_
  | with_reducible refine' g_ret ?_
  | with_reducible refine' g_if ?_
  | with_reducible refine' g_test ?_
  | with_reducible refine' g_tB ?_
  | with_reducible refine' g_bl ?_
  | ((with_reducible refine' g_eq ?h13 ?k13); (case' h13 => exact rfl))
  | ((with_reducible refine' g_ne ?h14 ?k14); (case' h14 => exact rfl))
  | with_reducible refine' g_CB ?_
  | with_reducible refine' g_call ?_
  | with_reducible refine' g_drop ?_
  | with_reducible refine' g_next ?_
  | with_reducible refine' g_not ?_
  | with_reducible refine' g_and ?_
  | with_reducible refine' g_or ?_
  | with_reducible refine' g_un ?_
  | with_reducible refine' g_U ?_
  | with_reducible refine' g_tup ?_
  | with_reducible refine' g_lst ?_
  | ((with_reducible refine' g_kNew ?h15 ?k15); (case' h15 => wtm_at "ln"); (case' k15 => intro _ _ _ _ _))
  | ((with_reducible refine' g_ixL ?h16 ?a16 ?k16); (case' h16 => wtm_at "sl"); (case' a16 => wtm_at "at"))
  | ((with_reducible refine' g_ixT ?h17 ?a17 ?k17); (case' h17 => wtm_at "st"); (case' a17 => wtm_at "at"))
  | with_reducible refine' g_slice ?_
  | with_reducible refine' g_part ?_
  | with_reducible refine' g_kPart ?_
  | with_reducible refine' g_noPart ?_
  | ((with_reducible refine' g_slL ?h18 ?k18); (case' h18 => wtm_at "sl"); (case' k18 => intro _ _ _ _ _))
  | ((with_reducible refine' g_cat ?h119 ?h219 ?l19 ?k19); (case' h119 => wtm_at "hp"); (case' h219 => wtm_at "hp"); (case' l19 => wtm_at "ln"); (case' k19 => intro _ _ _ _ _))
  | ((with_reducible refine' g_rep ?h120 ?h220 ?h320 ?l20 ?k20); (case' h120 => wtm_at "hp"); (case' h220 => wtm_at "ln"); (case' h320 => wtm_at "ln"); (case' l20 => wtm_at "ln"); (case' k20 => intro _ _ _ _ _))
  | ((with_reducible refine' g_append ?h21 ?l21 ?k21); (case' h21 => wtm_at "hp"); (case' l21 => wtm_at "ln"); (case' k21 => intro _ _ _))
  | ((with_reducible refine' g_kBM ?h22 ?k22); (case' h22 => wtm_at "sl"))
  | ((with_reducible refine' g_kBM0 ?h23 ?k23); (case' h23 => wtm_at "sl"))
  | ((with_reducible refine' g_kL ?h24 ?k24); (case' h24 => wtm_at "sl"))
  | ((with_reducible refine' g_kR1 ?h125 ?h225 ?k25); (case' h125 => wtm_at "ln"); (case' h225 => wtm_at "ln"))
  | ((with_reducible refine' g_kR2 ?h126 ?h226 ?h326 ?h426 ?k26); (case' h126 => wtm_at "ln"); (case' h226 => wtm_at "ln"); (case' h326 => wtm_at "ln"); (case' h426 => wtm_at "ln"))
  | ((with_reducible refine' g_lenL ?h27 ?k27); (case' h27 => wtm_at "sl"))
  | ((with_reducible refine' g_lenT ?h28 ?k28); (case' h28 => wtm_at "st"))
  | ((with_reducible refine' g_listL ?h29 ?k29); (case' h29 => wtm_at "sl"); (case' k29 => intro _ _ _ _ _))
  | ((with_reducible refine' g_tupleL ?h30 ?k30); (case' h30 => wtm_at "sl"); (case' k30 => intro _ _ _ _ _))
  | with_reducible refine' g_max ?_
  | with_reducible refine' g_min ?_
  | with_reducible refine' g_intB ?_
  | with_reducible refine' g_fld ?_
  | with_reducible refine' g_put ?_
  | with_reducible refine' g_dget ?_
  | with_reducible refine' g_isN ?_
  | with_reducible refine' g_notN ?_
  | with_reducible refine' g_ifE ?_
  | with_reducible refine' g_andV ?_
  | with_reducible refine' g_orV ?_
  | with_reducible refine' g_notV ?_
  | with_reducible refine' g_kIf ?_
  | with_reducible refine' g_chain ?_
  | with_reducible refine' g_kCh ?_
  | with_reducible refine' g_sub ?_
  | ((with_reducible refine' g_setI ?h92 ?e92 ?j92 ?k92); (case' h92 => wtm_at "hp"); (case' e92 => first | exact rfl | assumption); (case' j92 => wtm_at "ln"); (case' k92 => intro _ _ _))
  | ((with_reducible refine' g_setL ?h89 ?i89 ?k89); (case' h89 => wtm_at "hp"); (case' i89 => exact ixE rfl (by wtm_at "ln")); (case' k89 => intro _ _ _))
  | ((with_reducible refine' g_gtup ?h93 ?e93 ?k93); (case' h93 => wtm_at "st"); (case' e93 => exact rfl))
  | with_reducible refine' g_gcons ?_
  | with_reducible refine' g_gnil ?_
  | with_reducible refine' g_par ?_
  | with_reducible refine' g_kPar ?_
  | with_reducible refine' g_meth ?_
  | with_reducible refine' g_bm ?_
  | with_reducible refine' g_bm0 ?_
  | with_reducible refine' g_raise ?_
  | with_reducible refine' g_for ?_
  | with_reducible refine' g_iR1 ?_
  | with_reducible refine' g_iR2 ?_
  | with_reducible refine' g_iL ?_
  | with_reducible refine' g_lc ?_
  | with_reducible refine' g_retN ?_
  | with_reducible refine' g_no (b := false) rfl ?_
  | with_reducible refine' g_yes (b := true) rfl ?_)
local macro_rules | `(tactic| wtm_at "go") => `(tactic| repeat (wtm_at "g1"))
local macro_rules | `(tactic| wtm_at "gs") => `(tactic| repeat ((fail_if_success (with_reducible refine' g_ifE ?_)); wtm_at "g1"))
local macro_rules | `(tactic| wtm_at "gi") => `(tactic| repeat ((fail_if_success (with_reducible refine' g_if ?_)); wtm_at "g1"))
local macro_rules | `(tactic| wtm_at "gr") => `(tactic| repeat ((fail_if_success (with_reducible refine' g_ret ?_)); wtm_at "g1"))
local macro_rules | `(tactic| wtm_at "gq") => `(tactic| repeat ((fail_if_success (with_reducible refine' g_asg ?_)); wtm_at "g1"))
/-! ### the plain law: one sum, each stamp once -/
def sumA (ss : List (Int × Int)) : Int := (ss.map (·.2)).sum
theorem sumA_app (ss : List (Int × Int)) (s : Int × Int) : sumA (ss ++ [s]) = sumA ss + s.2 := by
  unfold sumA
  rw [List.map_append, List.sum_append]
  simp
/-- numbered from 1 on, each of 1 at the least -/
structure Nb (ss : List (Int × Int)) : Prop where
  n : ss.map (·.1) = (List.range ss.length).map fun (i : Nat) => (1 : Int) + i
  a : ∀ s ∈ ss, 1 ≤ s.2
theorem Nb.nil : Nb [] := ⟨rfl, by simp⟩
theorem Nb.app {ss : List (Int × Int)} {a : Int} (h : Nb ss) (ha : 1 ≤ a) : Nb (ss ++ [((ss.length : Int) + 1, a)]) := by
  refine ⟨?_, fun s hs => ?_⟩
  · rw [List.map_append, List.length_append, h.n]
    show _ = List.map _ (List.range (ss.length + 1))
    rw [List.range_succ, List.map_append]
    simp [Int.add_comm]
  · rcases List.mem_append.mp hs with z | z
    · exact h.a s z
    · simp at z; rw [z]; exact ha
theorem Nb.last {ss : List (Int × Int)} (h : Nb ss) : lastNo ss = ss.length := by
  unfold lastNo
  cases e : ss.getLast? with
  | none =>
    rw [List.getLast?_eq_none_iff] at e
    rw [e]
    rfl
  | some s =>
    rw [List.getLast?_eq_getElem?] at e
    have h1 : (ss.map (·.1))[ss.length - 1]? = some s.1 := by rw [List.getElem?_map, e]; rfl
    have hl := (List.getElem?_eq_some_iff.mp e).1
    rw [h.n, List.getElem?_map, List.getElem?_range hl] at h1
    simp at h1
    show s.1 = _
    omega
/-- what stands goes together -/
structure Gc (μ : Mt) : Prop where
  sm : bk μ 2 + bk μ 3 = bk μ 4
  r0 : 0 ≤ bk μ 2
  f0 : 0 ≤ bk μ 3
  nb : Nb μ.stamps
  st : (bk μ 8 = μ.stamps.length ∧ bk μ 2 = sumA μ.stamps) ∨ (bk μ 8 = μ.stamps.length + 1 ∧ bk μ 2 = sumA μ.stamps + bk μ 9 ∧ 1 ≤ bk μ 9)
/-- .. and one that is up owes nothing -/
structure Gd (μ : Mt) : Prop where
  c : Gc μ
  uo : μ.up = true → bk μ 8 = μ.stamps.length
theorem Gc.ow {μ : Mt} (h : Gc μ) (z : bk μ 8 = μ.stamps.length) : owed μ = none := by
  unfold owed
  rw [h.nb.last, z, if_neg (by omega)]
theorem Gc.ow1 {μ : Mt} (h : Gc μ) (z : bk μ 8 = μ.stamps.length + 1) : owed μ = some ((μ.stamps.length : Int) + 1, bk μ 9) := by
  unfold owed
  rw [h.nb.last, z, if_pos (by omega)]
theorem Gd.upst {μ : Mt} (h : Gd μ) (u : μ.up = true) : bk μ 8 = μ.stamps.length ∧ bk μ 2 = sumA μ.stamps := by
  rcases h.c.st with z | z
  · exact z
  · have := h.uo u; omega
/-- by the same bank -/
theorem Gc.of {μ μ' : Mt} (h : Gc μ) (e : ∀ i, bk μ' i = bk μ i) (s : μ'.stamps = μ.stamps) : Gc μ' :=
  ⟨by rw [e, e, e]; exact h.sm, by rw [e]; exact h.r0, by rw [e]; exact h.f0, by rw [s]; exact h.nb, by rw [e, e, e, s]; exact h.st⟩
/-- printing what is owed -/
theorem Gc.print {μ : Mt} (h : Gc μ) (cut : Option Nat) : Gc (printM μ cut).2 ∧ ((printM μ cut).1 = true → bk (printM μ cut).2 8 = (printM μ cut).2.stamps.length) ∧ ((printM μ cut).1 = false → (printM μ cut).2.up = false) := by
  rcases h.st with z | z
  · have o := h.ow z.1
    have e : printM μ cut = (true, μ) := by simp only [printM, o]
    rw [e]
    exact ⟨h, fun _ => z.1, fun z => by cases z⟩
  · have o := h.ow1 z.1
    by_cases hc : cut = some 0
    · have e : printM μ cut = (false, { μ with up := false }) := by simp only [printM, o, hc, if_true]
      rw [e]
      exact ⟨h.of (fun _ => rfl) rfl, fun z => (by cases z), fun _ => rfl⟩
    · have e : printM μ cut = (true, { μ with stamps := μ.stamps ++ [((μ.stamps.length : Int) + 1, bk μ 9)] }) := by simp only [printM, o, hc, if_false]
      rw [e]
      have e8 : bk μ 8 = ((μ.stamps ++ [((μ.stamps.length : Int) + 1, bk μ 9)]).length : Nat) := by
        rw [z.1]
        simp
      refine ⟨⟨h.sm, h.r0, h.f0, h.nb.app z.2.2, .inl ⟨e8, ?_⟩⟩, fun _ => e8, fun z => by cases z⟩
      show bk μ 2 = sumA (μ.stamps ++ _)
      rw [sumA_app, z.2.1]
theorem Gc.printd {μ : Mt} (h : Gc μ) (cut : Option Nat) : Gd (printM μ cut).2 := by
  obtain ⟨a, b, c⟩ := h.print cut
  refine ⟨a, fun u => ?_⟩
  cases hb : (printM μ cut).1 with
  | true => exact b hb
  | false => rw [c hb] at u; cases u
theorem no_short {μ : Mt} {a : Int} (h : stampR μ a = none) : ¬ bk μ 3 < a := fun z => by
  simp only [stampR, if_pos z] at h
  split at h
  · cases h
  · split at h <;> cases h
theorem chs_gc {n : Nat} {μ : Mt} (W : Wf n μ) (h : Gd μ) {d : Dd} (hd : d ≠ .up) (hr : refR μ d = none) : Gc { μ with cells := wr μ.cells (stepsOf μ.cells (chsOf μ d)) 11 } := by
  have hu := ref_up hd hr
  have st := h.upst hu
  have hl := W.any.1
  have eb : ∀ i, bk { μ with cells := wr μ.cells (stepsOf μ.cells (chsOf μ d)) 11 } i = cl (news μ.cells (chsOf μ d)) i := bk_wr W.any (chsOf_ok μ d)
  have sm := h.c.sm
  have r0 := h.c.r0
  have f0 := h.c.f0
  have nb := h.c.nb
  cases d with
  | up => exact absurd rfl hd
  | stamp a =>
    have ha : 1 ≤ a ∧ a ≤ 99999 := amt_bd fun z => by simp only [refR, stampR, z] at hr; split at hr <;> simp at hr
    have hs := no_short hr
    have e2 : cl (news μ.cells (chsOf μ (.stamp a))) 2 = bk μ 2 + a := news_at hl (l := []) (r := [(3, bk μ 3 - a), (8, bk μ 8 + 1), (9, a)]) rfl (by simp) (by decide)
    have e3 : cl (news μ.cells (chsOf μ (.stamp a))) 3 = bk μ 3 - a := news_at hl (l := [(2, bk μ 2 + a)]) (r := [(8, bk μ 8 + 1), (9, a)]) rfl (by simp) (by decide)
    have e4 : cl (news μ.cells (chsOf μ (.stamp a))) 4 = bk μ 4 := news_out (by simp [chsOf, stampChs]) (by decide)
    have e8 : cl (news μ.cells (chsOf μ (.stamp a))) 8 = bk μ 8 + 1 := news_at hl (l := [(2, bk μ 2 + a), (3, bk μ 3 - a)]) (r := [(9, a)]) rfl (by simp) (by decide)
    have e9 : cl (news μ.cells (chsOf μ (.stamp a))) 9 = a := news_at hl (l := [(2, bk μ 2 + a), (3, bk μ 3 - a), (8, bk μ 8 + 1)]) (r := []) rfl (by simp) (by decide)
    refine ⟨?_, ?_, ?_, nb, .inr ?_⟩
    · rw [eb, eb, eb, e2, e3, e4]; omega
    · rw [eb, e2]; omega
    · rw [eb, e3]; omega
    · rw [eb, eb, eb, e8, e9, e2, st.1, st.2]
      exact ⟨rfl, rfl, ha.1⟩
  | back a =>
    have hs := no_short hr
    have e2 : cl (news μ.cells (chsOf μ (.back a))) 2 = bk μ 2 := news_out (by simp [chsOf, backChs]) (by decide)
    have e3 : cl (news μ.cells (chsOf μ (.back a))) 3 = bk μ 3 - a := news_at hl (l := []) (r := [(4, bk μ 4 - a), (6, bk μ 6 + 1), (7, a)]) rfl (by simp) (by decide)
    have e4 : cl (news μ.cells (chsOf μ (.back a))) 4 = bk μ 4 - a := news_at hl (l := [(3, bk μ 3 - a)]) (r := [(6, bk μ 6 + 1), (7, a)]) rfl (by simp) (by decide)
    have e8 : cl (news μ.cells (chsOf μ (.back a))) 8 = bk μ 8 := news_out (by simp [chsOf, backChs]) (by decide)
    refine ⟨?_, ?_, ?_, nb, .inl ?_⟩
    · rw [eb, eb, eb, e2, e3, e4]; omega
    · rw [eb, e2]; omega
    · rw [eb, e3]; omega
    · rw [eb, eb, e8, e2]; exact st
  | top z =>
    have ha : 1 ≤ z.a ∧ z.a ≤ 99999 := amt_bd fun q => by simp only [refR, topR, good, q, Bool.and_false, Bool.false_and] at hr; split at hr <;> simp at hr
    have e2 : cl (news μ.cells (chsOf μ (.top z))) 2 = bk μ 2 := news_out (by simp [chsOf, topChsL]) (by decide)
    have e3 : cl (news μ.cells (chsOf μ (.top z))) 3 = bk μ 3 + z.a := news_at hl (l := []) (r := [(4, bk μ 4 + z.a), (5, bk μ 5 + 1)]) rfl (by simp) (by decide)
    have e4 : cl (news μ.cells (chsOf μ (.top z))) 4 = bk μ 4 + z.a := news_at hl (l := [(3, bk μ 3 + z.a)]) (r := [(5, bk μ 5 + 1)]) rfl (by simp) (by decide)
    have e8 : cl (news μ.cells (chsOf μ (.top z))) 8 = bk μ 8 := news_out (by simp [chsOf, topChsL]) (by decide)
    refine ⟨?_, ?_, ?_, nb, .inl ?_⟩
    · rw [eb, eb, eb, e2, e3, e4]; omega
    · rw [eb, e2]; omega
    · rw [eb, e3]; omega
    · rw [eb, eb, e8, e2]; exact st
theorem due_gd {n : Nat} {μ : Mt} (W : Wf n μ) (h : Gd μ) (d : Dd) (cut : Option Nat) : Gd (dueM μ d cut).2 := by
  by_cases hd : d = .up
  · subst hd
    by_cases hu : μ.up = true
    · have e : dueM μ .up cut = (.str "Up", μ) := if_pos hu
      rw [e]
      exact h
    · have e := (does_due W .up cut).2 (by simp [doesR, hu])
      rw [e]
      show Gd (upM μ cut).2
      obtain ⟨a, b, c⟩ := h.c.print cut
      unfold upM
      cases hb : (printM μ cut).1 with
      | true =>
        rw [if_pos rfl]
        exact ⟨a.of (fun _ => rfl) rfl, fun _ => b hb⟩
      | false =>
        rw [if_neg (by simp)]
        exact h.c.printd cut
  · cases hr : refR μ d with
    | some r => rw [dueM_ref hd hr]; exact h
    | none =>
      have hu := ref_up hd hr
      rw [dueM_run hd hr]
      show Gd (runM μ (chsOf μ d) cut).2
      unfold runM
      rcases writeM_cases μ (chsOf μ d) cut with ⟨k, _, hk, e⟩ | ⟨_, e⟩
      · rw [e]
        exact ⟨h.c.of (fun i => by unfold bk; rw [bank_wr_cut W.any hk]) rfl, fun z => by cases z⟩
      · rw [e]
        exact (chs_gc W h hd hr).printd _
/-- no stamp goes, one comes at the most -/
theorem print_pre (μ : Mt) (cut : Option Nat) : (printM μ cut).2.stamps = μ.stamps ∨ ∃ s, (printM μ cut).2.stamps = μ.stamps ++ [s] := by
  unfold printM
  cases owed μ with
  | none => exact .inl rfl
  | some s =>
    simp only
    split
    · exact .inl rfl
    · exact .inr ⟨s, rfl⟩
theorem due_pre (μ : Mt) (d : Dd) (cut : Option Nat) : (dueM μ d cut).2.stamps = μ.stamps ∨ ∃ s, (dueM μ d cut).2.stamps = μ.stamps ++ [s] := by
  by_cases hd : d = .up
  · subst hd
    by_cases hu : μ.up = true
    · have e : dueM μ .up cut = (.str "Up", μ) := if_pos hu
      rw [e]
      exact .inl rfl
    · cases eo : owed μ with
      | none =>
        have e : dueM μ .up cut = (.bool true, { μ with up := true }) := by simp [dueM, hu, eo]
        rw [e]
        exact .inl rfl
      | some s =>
        by_cases h0 : cut = some 0
        · have e : dueM μ .up cut = (.none, μ) := by simp [dueM, hu, eo, h0]
          rw [e]
          exact .inl rfl
        · have e : dueM μ .up cut = (.bool true, { μ with stamps := μ.stamps ++ [s], up := true }) := by simp [dueM, hu, eo, h0]
          rw [e]
          exact .inr ⟨s, rfl⟩
  · cases hr : refR μ d with
    | some r => rw [dueM_ref hd hr]; exact .inl rfl
    | none =>
      rw [dueM_run hd hr]
      show (runM μ (chsOf μ d) cut).2.stamps = _ ∨ ∃ s, (runM μ (chsOf μ d) cut).2.stamps = _
      unfold runM
      rcases writeM_cases μ (chsOf μ d) cut with ⟨k, _, hk, e⟩ | ⟨_, e⟩
      · rw [e]; exact .inl rfl
      · rw [e]; exact print_pre { μ with cells := wr μ.cells (stepsOf μ.cells (chsOf μ d)) 11 } _
/-- a number told is that of the last stamp -/
theorem stamp_told {n : Nat} {μ : Mt} (W : Wf n μ) (h : Gd μ) {a k : Int} {cut : Option Nat} (e : (dueM μ (.stamp a) cut).1 = .int k) : (dueM μ (.stamp a) cut).2.stamps = μ.stamps ++ [(k, a)] := by
  have hd : (Dd.stamp a) ≠ .up := by simp
  cases hr : refR μ (.stamp a) with
  | some r => rw [dueM_ref hd hr] at e; cases e
  | none =>
    have hu := ref_up hd hr
    have st := h.upst hu
    have hl := W.any.1
    rw [dueM_run hd hr] at e ⊢
    show (runM μ (chsOf μ (.stamp a)) cut).2.stamps = _
    have e : (if (runM μ (chsOf μ (.stamp a)) cut).1 = true then toldOf μ (.stamp a) else .none) = .int k := e
    cases hb : (runM μ (chsOf μ (.stamp a)) cut).1 with
    | false => rw [hb, if_neg (by simp)] at e; cases e
    | true =>
      rw [hb, if_pos rfl] at e
      have ek : k = bk μ 8 + 1 := by
        have : PyData.int (bk μ 8 + 1) = .int k := e
        cases this
        rfl
      unfold runM at hb ⊢
      rcases writeM_cases μ (chsOf μ (.stamp a)) cut with ⟨j, _, hj, ew⟩ | ⟨_, ew⟩
      · rw [ew] at hb; cases hb
      · rw [ew] at hb ⊢
        simp only at hb ⊢
        have e8 : cl (news μ.cells (chsOf μ (.stamp a))) 8 = bk μ 8 + 1 := news_at hl (l := [(2, bk μ 2 + a), (3, bk μ 3 - a)]) (r := [(9, a)]) rfl (by simp) (by decide)
        have e9 : cl (news μ.cells (chsOf μ (.stamp a))) 9 = a := news_at hl (l := [(2, bk μ 2 + a), (3, bk μ 3 - a), (8, bk μ 8 + 1)]) (r := []) rfl (by simp) (by decide)
        have eb : ∀ i, bk { μ with cells := wr μ.cells (stepsOf μ.cells (chsOf μ (.stamp a))) 11 } i = cl (news μ.cells (chsOf μ (.stamp a))) i := bk_wr W.any (chsOf_ok μ _)
        have eo : owed { μ with cells := wr μ.cells (stepsOf μ.cells (chsOf μ (.stamp a))) 11 } = some (k, a) := by
          unfold owed
          rw [eb, eb, e8, e9, ek]
          show (if lastNo μ.stamps < _ then _ else _) = _
          rw [h.c.nb.last, st.1, if_pos (by omega)]
        unfold printM at hb ⊢
        rw [eo] at hb ⊢
        simp only at hb ⊢
        split at hb
        · cases hb
        · rename_i hc
          rw [if_neg hc]
end Fk
namespace Fk
open PySem PySem.Spec PyProof.Rows L2
local macro_rules | `(tactic| wtm_at "ln") => `(tactic| first
  | omega
  | (simp only [List.length_cons, List.length_nil, List.length_map, List.length_append, List.length_replicate, List.length_take, List.length_drop, List.length_set]; omega)
  | (with_unfolding_all exact (by decide)))
local macro_rules | `(tactic| wtm_at "ar") => `(tactic| first
  | ((with_reducible show CMulW _ _); (refine' mulS ?_ ?_ <;> omega))
  | ((with_reducible show CDivW _ _); (refine' divS ?_ ?_ <;> omega))
  | ((with_reducible show CPow _ _); exact ⟨by decide, by decide, by decide⟩)
  | (show (0 : Int) < _; omega)
  | (with_unfolding_all exact (by decide)))
local macro_rules | `(tactic| wtm_at "at") => `(tactic| first
  | assumption
  | (refine' cl_atE ?e80 ?h80; (case' e80 => first | exact rfl | assumption); (case' h80 => wtm_at "ln"))
  | exact rfl)
local macro_rules | `(tactic| wtm_at "fr") => `(tactic| first
  | assumption
  | ((with_reducible refine' Mx.free0 ?m99 ?h99); (case' h99 => assumption); (case' m99 => wtm_at "mo")))
local macro_rules | `(tactic| wtm_at "hp") => `(tactic| first
  | assumption
  | ((with_reducible refine' Mx.get0 ?m1 ?h1); (case' m1 => assumption); (case' h1 => wtm_at "hp"))
  | ((with_reducible refine' Mx.get ?m2 ?n2 ?h2); (case' m2 => assumption); (case' n2 => wtm_at "nin"); (case' h2 => wtm_at "hp")))
local macro_rules | `(tactic| wtm_at "sl") => `(tactic| first
  | assumption
  | ((with_reducible refine' Mx.sqL0 ?m96 ?h96); (case' h96 => assumption); (case' m96 => wtm_at "mo"))
  | (refine' SqL.of ?h3; (case' h3 => wtm_at "hp"))
  | ((with_reducible refine' Mx.sqL0 ?m4 ?h4); (case' m4 => assumption); (case' h4 => wtm_at "sl"))
  | ((with_reducible refine' Mx.sqL ?m5 ?n5 ?h5); (case' m5 => assumption); (case' n5 => wtm_at "nin"); (case' h5 => wtm_at "sl")))
local macro_rules | `(tactic| wtm_at "st") => `(tactic| first
  | assumption
  | ((with_reducible refine' Mx.sqT0 ?m97 ?h97); (case' h97 => assumption); (case' m97 => wtm_at "mo"))
  | (refine' SqT.of ?h6; (case' h6 => wtm_at "hp"))
  | ((with_reducible refine' Mx.sqT0 ?m7 ?h7); (case' m7 => assumption); (case' h7 => wtm_at "st"))
  | ((with_reducible refine' Mx.sqT ?m8 ?n8 ?h8); (case' m8 => assumption); (case' n8 => wtm_at "nin"); (case' h8 => wtm_at "st")))
local macro_rules | `(tactic| wtm_at "mx") => `(tactic| first
  | assumption
  | exact Mx.refl
  | ((with_reducible refine' Mx.of0 ?h9); (case' h9 => assumption))
  | ((with_reducible refine' Mx.trans ?h10 ?m10); (case' m10 => first | assumption | ((with_reducible refine' Mx.of0 ?q10); (case' q10 => assumption))); (case' h10 => wtm_at "mx")))
local macro_rules | `(tactic| wtm_at "mo") => `(tactic| first
  | wtm_at "mx"
  | ((with_reducible refine' Mx.own ?m90 ?f90 ?k90); (case' k90 => assumption); (case' f90 => wtm_at "fr"); (case' m90 => wtm_at "mo"))
  | ((with_reducible refine' Mx.trans ?h91 ?m91); (case' m91 => first | assumption | ((with_reducible refine' Mx.of0 ?q91); (case' q91 => assumption))); (case' h91 => wtm_at "mo")))
local macro_rules | `(tactic| wtm_at "ne") => `(tactic| first
  | assumption
  | exact Ne.symm (by assumption)
  | ((with_reducible refine' ne_of_none ?x94 ?y94); (case' y94 => assumption); (case' x94 => wtm_at "hp"))
  | ((with_reducible refine' Ne.symm (ne_of_none ?x95 ?y95)); (case' y95 => assumption); (case' x95 => wtm_at "hp")))
local macro_rules | `(tactic| wtm_at "nin") => `(tactic| first
  | assumption
  | exact List.not_mem_nil
  | ((with_reducible refine' List.not_mem_cons_of_ne_of_not_mem ?h98 ?t98); (case' h98 => wtm_at "ne"); (case' t98 => wtm_at "nin")))
local macro_rules | `(tactic| wtm_at "g1") => `(tactic| first
  | ((with_reducible refine' g_var ?h11 ?k11); (case' h11 => exact rfl))
  | with_reducible refine' g_c ?_
  | with_reducible refine' g_op ?_
  | with_reducible refine' g_I0 ?_
  | ((with_reducible refine' g_I ?c12 ?k12); (case' c12 => wtm_at "ar"))
  | with_reducible refine' g_cons ?_
  | with_reducible refine' g_nil ?_
  | with_reducible refine' g_seq ?_
  | with_reducible refine' g_asg ?_
  | with_reducible refine' g_name ?_
  | with_reducible refine' g_ret ?_
  | with_reducible refine' g_if ?_
  | with_reducible refine' g_test ?_
  | with_reducible refine' g_tB ?_
  | with_reducible refine' g_bl ?_
  | ((with_reducible refine' g_eq ?h13 ?k13); (case' h13 => exact rfl))
  | ((with_reducible refine' g_ne ?h14 ?k14); (case' h14 => exact rfl))
  | with_reducible refine' g_CB ?_
  | with_reducible refine' g_call ?_
  | with_reducible refine' g_drop ?_
  | with_reducible refine' g_next ?_
  | with_reducible refine' g_not ?_
  | with_reducible refine' g_and ?_
  | with_reducible refine' g_or ?_
  | with_reducible refine' g_un ?_
  | with_reducible refine' g_U ?_
  | with_reducible refine' g_tup ?_
  | with_reducible refine' g_lst ?_
  | ((with_reducible refine' g_kNew ?h15 ?k15); (case' h15 => wtm_at "ln"); (case' k15 => intro _ _ _ _ _))
  | ((with_reducible refine' g_ixL ?h16 ?a16 ?k16); (case' h16 => wtm_at "sl"); (case' a16 => wtm_at "at"))
  | ((with_reducible refine' g_ixT ?h17 ?a17 ?k17); (case' h17 => wtm_at "st"); (case' a17 => wtm_at "at"))
  | with_reducible refine' g_slice ?_
  | with_reducible refine' g_part ?_
  | with_reducible refine' g_kPart ?_
  | with_reducible refine' g_noPart ?_
  | ((with_reducible refine' g_slL ?h18 ?k18); (case' h18 => wtm_at "sl"); (case' k18 => intro _ _ _ _ _))
  | ((with_reducible refine' g_cat ?h119 ?h219 ?l19 ?k19); (case' h119 => wtm_at "hp"); (case' h219 => wtm_at "hp"); (case' l19 => wtm_at "ln"); (case' k19 => intro _ _ _ _ _))
  | ((with_reducible refine' g_rep ?h120 ?h220 ?h320 ?l20 ?k20); (case' h120 => wtm_at "hp"); (case' h220 => wtm_at "ln"); (case' h320 => wtm_at "ln"); (case' l20 => wtm_at "ln"); (case' k20 => intro _ _ _ _ _))
  | ((with_reducible refine' g_append ?h21 ?l21 ?k21); (case' h21 => wtm_at "hp"); (case' l21 => wtm_at "ln"); (case' k21 => intro _ _ _))
  | ((with_reducible refine' g_kBM ?h22 ?k22); (case' h22 => wtm_at "sl"))
  | ((with_reducible refine' g_kBM0 ?h23 ?k23); (case' h23 => wtm_at "sl"))
  | ((with_reducible refine' g_kL ?h24 ?k24); (case' h24 => wtm_at "sl"))
  | ((with_reducible refine' g_kR1 ?h125 ?h225 ?k25); (case' h125 => wtm_at "ln"); (case' h225 => wtm_at "ln"))
  | ((with_reducible refine' g_kR2 ?h126 ?h226 ?h326 ?h426 ?k26); (case' h126 => wtm_at "ln"); (case' h226 => wtm_at "ln"); (case' h326 => wtm_at "ln"); (case' h426 => wtm_at "ln"))
  | ((with_reducible refine' g_lenL ?h27 ?k27); (case' h27 => wtm_at "sl"))
  | ((with_reducible refine' g_lenT ?h28 ?k28); (case' h28 => wtm_at "st"))
  | ((with_reducible refine' g_listL ?h29 ?k29); (case' h29 => wtm_at "sl"); (case' k29 => intro _ _ _ _ _))
  | ((with_reducible refine' g_tupleL ?h30 ?k30); (case' h30 => wtm_at "sl"); (case' k30 => intro _ _ _ _ _))
  | with_reducible refine' g_max ?_
  | with_reducible refine' g_min ?_
  | with_reducible refine' g_intB ?_
  | with_reducible refine' g_fld ?_
  | with_reducible refine' g_put ?_
  | with_reducible refine' g_dget ?_
  | with_reducible refine' g_isN ?_
  | with_reducible refine' g_notN ?_
  | with_reducible refine' g_ifE ?_
  | with_reducible refine' g_andV ?_
  | with_reducible refine' g_orV ?_
  | with_reducible refine' g_notV ?_
  | with_reducible refine' g_kIf ?_
  | with_reducible refine' g_chain ?_
  | with_reducible refine' g_kCh ?_
  | with_reducible refine' g_sub ?_
  | ((with_reducible refine' g_setI ?h92 ?e92 ?j92 ?k92); (case' h92 => wtm_at "hp"); (case' e92 => first | exact rfl | assumption); (case' j92 => wtm_at "ln"); (case' k92 => intro _ _ _))
  | ((with_reducible refine' g_setL ?h89 ?i89 ?k89); (case' h89 => wtm_at "hp"); (case' i89 => exact ixE rfl (by wtm_at "ln")); (case' k89 => intro _ _ _))
  | ((with_reducible refine' g_gtup ?h93 ?e93 ?k93); (case' h93 => wtm_at "st"); (case' e93 => exact rfl))
  | with_reducible refine' g_gcons ?_
  | with_reducible refine' g_gnil ?_
  | with_reducible refine' g_par ?_
  | with_reducible refine' g_kPar ?_
  | with_reducible refine' g_meth ?_
  | with_reducible refine' g_bm ?_
  | with_reducible refine' g_bm0 ?_
  | with_reducible refine' g_raise ?_
  | with_reducible refine' g_for ?_
  | with_reducible refine' g_iR1 ?_
  | with_reducible refine' g_iR2 ?_
  | with_reducible refine' g_iL ?_
  | with_reducible refine' g_lc ?_
  | with_reducible refine' g_retN ?_
  | with_reducible refine' g_no (b := false) rfl ?_
  | with_reducible refine' g_yes (b := true) rfl ?_)
local macro_rules | `(tactic| wtm_at "go") => `(tactic| repeat (wtm_at "g1"))
local macro_rules | `(tactic| wtm_at "gs") => `(tactic| repeat ((fail_if_success (with_reducible refine' g_ifE ?_)); wtm_at "g1"))
local macro_rules | `(tactic| wtm_at "gi") => `(tactic| repeat ((fail_if_success (with_reducible refine' g_if ?_)); wtm_at "g1"))
local macro_rules | `(tactic| wtm_at "gr") => `(tactic| repeat ((fail_if_success (with_reducible refine' g_ret ?_)); wtm_at "g1"))
local macro_rules | `(tactic| wtm_at "gq") => `(tactic| repeat ((fail_if_success (with_reducible refine' g_asg ?_)); wtm_at "g1"))
/-! ### sums, ranges as lists, slices -/
section
variable {X : Cx} (K : PySem.W.Frag)
theorem cSum (hc : X.calm = true) (e : X.K = K := by rfl) : CallR X (.builtin "sum") (rSum K) := e ▸ cr_sum hc
end
section
variable {K : PySem.W.Frag} {σ : L2.St} {H H' : Hp} {Q : VK} {x y : V} {ta tb : TE}
theorem g_tYes {QB : Bool → Hp → Prop} (k : QB true H) : tYes σ H QB := k
theorem g_sum {a : Addr} {ns : List Int} (h : SqL K H a (ns.map V.int)) (k : Q (.int ns.sum) H) : rSum K [.ref a] H Q := ⟨a, ns, rfl, h, k⟩
def kRg2 (x : V) (Q : VK) : VK := fun y H2 => ∃ i j, x = .int i ∧ y = .int j ∧ (RgOk i j ∧ ∀ q, H2 q = none → Q (.ref q) (upd H2 q (.lst (rgV i j))))
theorem g_lstRg2 (k : ta σ H fun x H1 => tb σ H1 (kRg2 x Q)) : tLstRg (tRg2 ta tb) σ H Q := k
theorem g_kRg2 {i j : Int} (h : RgOk i j) (k : ∀ q H', H q = none → Mx [] H H' → H' q = some (.lst (rgV i j)) → Q (.ref q) H') : kRg2 (.int i) Q (.int j) H := ⟨i, j, rfl, rfl, h, fun q hq => k q _ hq (.new hq) upd_same⟩
theorem cutV_take {ws : List V} {n : Nat} : cutV ws none (some (n : Int)) = ws.take n := by
  unfold cutV
  rw [HT.sIx_nat, HT.sIx_none, List.drop_zero, Nat.sub_zero]
  by_cases h : n ≤ ws.length
  · rw [Nat.min_eq_left h]
  · rw [Nat.min_eq_right (by omega), List.take_of_length_le (by omega), List.take_of_length_le (by omega)]
theorem cutV_drop {ws : List V} {n : Nat} : cutV ws (some (n : Int)) none = ws.drop n := by
  unfold cutV
  rw [HT.sIx_nat, HT.sIx_none]
  by_cases h : n ≤ ws.length
  · rw [Nat.min_eq_left h, List.take_of_length_le (by simp)]
  · rw [Nat.min_eq_right (by omega), Nat.sub_self, List.take_zero, List.drop_eq_nil_of_le (by omega)]
theorem fm_map {α : Type} (g : α → V) (l : List α) : (List.range l.length).filterMap (fun i => (l[i]?).map g) = l.map g := by
  have key : ∀ n, n ≤ l.length → (List.range n).filterMap (fun i => (l[i]?).map g) = (l.take n).map g := by
    intro n
    induction n with
    | zero => intro _; rfl
    | succ n ih =>
      intro h
      rw [range_fm, ih (by omega), List.take_add_one]
      have : l[n]? = some l[n] := List.getElem?_eq_getElem (by omega)
      rw [this, List.map_append]
      rfl
  rw [key _ (Nat.le_refl _), List.take_length]
/-- a list of stamps at an address -/
def LstAt (K : PySem.W.Frag) (H : Hp) (la : Addr) (ss : List (Int × Int)) : Prop := ∃ ws, H la = some (.lst ws) ∧ DpAll K H ws (ss.map stD)
theorem LstAt.mx {S : List Addr} {la : Addr} {ss : List (Int × Int)} (h : LstAt K H la ss) (m : Mx S H H') (n : NoTup H S) (f : la ∉ S) : LstAt K H' la ss := by
  obtain ⟨ws, e, d⟩ := h
  exact ⟨ws, m _ _ e f, m.sts n d⟩
theorem LstAt.mx0 {la : Addr} {ss : List (Int × Int)} (h : LstAt K H la ss) (m : Mx [] H H') : LstAt K H' la ss := h.mx m noTup0 (by simp)
theorem LstAt.extn {la : Addr} {ss : List (Int × Int)} (h : LstAt K H la ss) (e : LamX.ExtN H H') : LstAt K H' la ss := by
  obtain ⟨ws, e1, d⟩ := h
  exact ⟨ws, e _ _ e1 (fun _ z => nomatch z), extn_dpA e d⟩
theorem LstAt.ne {la : Addr} {ss : List (Int × Int)} (h : LstAt K H la ss) {x : Addr} (f : H x = none) : la ≠ x := by
  obtain ⟨ws, e1, d⟩ := h
  exact ne_of_none e1 f
end
end Fk
namespace Fk
open PySem PySem.Spec PyProof.Rows L2
local macro_rules | `(tactic| wtm_at "ln") => `(tactic| first
  | omega
  | (simp only [List.length_cons, List.length_nil, List.length_map, List.length_append, List.length_replicate, List.length_take, List.length_drop, List.length_set]; omega)
  | (with_unfolding_all exact (by decide)))
local macro_rules | `(tactic| wtm_at "ar") => `(tactic| first
  | ((with_reducible show CMulW _ _); (refine' mulS ?_ ?_ <;> omega))
  | ((with_reducible show CDivW _ _); (refine' divS ?_ ?_ <;> omega))
  | ((with_reducible show CPow _ _); exact ⟨by decide, by decide, by decide⟩)
  | (show (0 : Int) < _; omega)
  | (with_unfolding_all exact (by decide)))
local macro_rules | `(tactic| wtm_at "at") => `(tactic| first
  | assumption
  | (refine' cl_atE ?e80 ?h80; (case' e80 => first | exact rfl | assumption); (case' h80 => wtm_at "ln"))
  | exact rfl)
local macro_rules | `(tactic| wtm_at "fr") => `(tactic| first
  | assumption
  | ((with_reducible refine' Mx.free0 ?m99 ?h99); (case' h99 => assumption); (case' m99 => wtm_at "mo")))
local macro_rules | `(tactic| wtm_at "hp") => `(tactic| first
  | assumption
  | ((with_reducible refine' Mx.get0 ?m1 ?h1); (case' m1 => assumption); (case' h1 => wtm_at "hp"))
  | ((with_reducible refine' Mx.get ?m2 ?n2 ?h2); (case' m2 => assumption); (case' n2 => wtm_at "nin"); (case' h2 => wtm_at "hp")))
local macro_rules | `(tactic| wtm_at "sl") => `(tactic| first
  | assumption
  | ((with_reducible refine' Mx.sqL0 ?m96 ?h96); (case' h96 => assumption); (case' m96 => wtm_at "mo"))
  | (refine' SqL.of ?h3; (case' h3 => wtm_at "hp"))
  | ((with_reducible refine' Mx.sqL0 ?m4 ?h4); (case' m4 => assumption); (case' h4 => wtm_at "sl"))
  | ((with_reducible refine' Mx.sqL ?m5 ?n5 ?h5); (case' m5 => assumption); (case' n5 => wtm_at "nin"); (case' h5 => wtm_at "sl")))
local macro_rules | `(tactic| wtm_at "st") => `(tactic| first
  | assumption
  | ((with_reducible refine' Mx.sqT0 ?m97 ?h97); (case' h97 => assumption); (case' m97 => wtm_at "mo"))
  | (refine' SqT.of ?h6; (case' h6 => wtm_at "hp"))
  | ((with_reducible refine' Mx.sqT0 ?m7 ?h7); (case' m7 => assumption); (case' h7 => wtm_at "st"))
  | ((with_reducible refine' Mx.sqT ?m8 ?n8 ?h8); (case' m8 => assumption); (case' n8 => wtm_at "nin"); (case' h8 => wtm_at "st")))
local macro_rules | `(tactic| wtm_at "mx") => `(tactic| first
  | assumption
  | exact Mx.refl
  | ((with_reducible refine' Mx.of0 ?h9); (case' h9 => assumption))
  | ((with_reducible refine' Mx.trans ?h10 ?m10); (case' m10 => first | assumption | ((with_reducible refine' Mx.of0 ?q10); (case' q10 => assumption))); (case' h10 => wtm_at "mx")))
local macro_rules | `(tactic| wtm_at "mo") => `(tactic| first
  | wtm_at "mx"
  | ((with_reducible refine' Mx.own ?m90 ?f90 ?k90); (case' k90 => assumption); (case' f90 => wtm_at "fr"); (case' m90 => wtm_at "mo"))
  | ((with_reducible refine' Mx.trans ?h91 ?m91); (case' m91 => first | assumption | ((with_reducible refine' Mx.of0 ?q91); (case' q91 => assumption))); (case' h91 => wtm_at "mo")))
local macro_rules | `(tactic| wtm_at "ne") => `(tactic| first
  | assumption
  | exact Ne.symm (by assumption)
  | ((with_reducible refine' ne_of_none ?x94 ?y94); (case' y94 => assumption); (case' x94 => wtm_at "hp"))
  | ((with_reducible refine' Ne.symm (ne_of_none ?x95 ?y95)); (case' y95 => assumption); (case' x95 => wtm_at "hp")))
local macro_rules | `(tactic| wtm_at "nin") => `(tactic| first
  | assumption
  | exact List.not_mem_nil
  | ((with_reducible refine' List.not_mem_cons_of_ne_of_not_mem ?h98 ?t98); (case' h98 => wtm_at "ne"); (case' t98 => wtm_at "nin")))
local macro_rules | `(tactic| wtm_at "g1") => `(tactic| first
  | ((with_reducible refine' g_var ?h11 ?k11); (case' h11 => exact rfl))
  | with_reducible refine' g_c ?_
  | with_reducible refine' g_op ?_
  | with_reducible refine' g_I0 ?_
  | ((with_reducible refine' g_I ?c12 ?k12); (case' c12 => wtm_at "ar"))
  | with_reducible refine' g_cons ?_
  | with_reducible refine' g_nil ?_
  | with_reducible refine' g_seq ?_
  | with_reducible refine' g_asg ?_
  | with_reducible refine' g_name ?_
  | with_reducible refine' g_ret ?_
  | with_reducible refine' g_if ?_
  | with_reducible refine' g_test ?_
  | with_reducible refine' g_tB ?_
  | with_reducible refine' g_bl ?_
  | ((with_reducible refine' g_eq ?h13 ?k13); (case' h13 => exact rfl))
  | ((with_reducible refine' g_ne ?h14 ?k14); (case' h14 => exact rfl))
  | with_reducible refine' g_CB ?_
  | with_reducible refine' g_call ?_
  | with_reducible refine' g_drop ?_
  | with_reducible refine' g_next ?_
  | with_reducible refine' g_not ?_
  | with_reducible refine' g_and ?_
  | with_reducible refine' g_or ?_
  | with_reducible refine' g_un ?_
  | with_reducible refine' g_U ?_
  | with_reducible refine' g_tup ?_
  | with_reducible refine' g_lst ?_
  | ((with_reducible refine' g_kNew ?h15 ?k15); (case' h15 => wtm_at "ln"); (case' k15 => intro _ _ _ _ _))
  | ((with_reducible refine' g_ixL ?h16 ?a16 ?k16); (case' h16 => wtm_at "sl"); (case' a16 => wtm_at "at"))
  | ((with_reducible refine' g_ixT ?h17 ?a17 ?k17); (case' h17 => wtm_at "st"); (case' a17 => wtm_at "at"))
  | with_reducible refine' g_slice ?_
  | with_reducible refine' g_part ?_
  | with_reducible refine' g_kPart ?_
  | with_reducible refine' g_noPart ?_
  | ((with_reducible refine' g_slL ?h18 ?k18); (case' h18 => wtm_at "sl"); (case' k18 => intro _ _ _ _ _))
  | ((with_reducible refine' g_cat ?h119 ?h219 ?l19 ?k19); (case' h119 => wtm_at "hp"); (case' h219 => wtm_at "hp"); (case' l19 => wtm_at "ln"); (case' k19 => intro _ _ _ _ _))
  | ((with_reducible refine' g_rep ?h120 ?h220 ?h320 ?l20 ?k20); (case' h120 => wtm_at "hp"); (case' h220 => wtm_at "ln"); (case' h320 => wtm_at "ln"); (case' l20 => wtm_at "ln"); (case' k20 => intro _ _ _ _ _))
  | ((with_reducible refine' g_append ?h21 ?l21 ?k21); (case' h21 => wtm_at "hp"); (case' l21 => wtm_at "ln"); (case' k21 => intro _ _ _))
  | ((with_reducible refine' g_kBM ?h22 ?k22); (case' h22 => wtm_at "sl"))
  | ((with_reducible refine' g_kBM0 ?h23 ?k23); (case' h23 => wtm_at "sl"))
  | ((with_reducible refine' g_kL ?h24 ?k24); (case' h24 => wtm_at "sl"))
  | ((with_reducible refine' g_kR1 ?h125 ?h225 ?k25); (case' h125 => wtm_at "ln"); (case' h225 => wtm_at "ln"))
  | ((with_reducible refine' g_kR2 ?h126 ?h226 ?h326 ?h426 ?k26); (case' h126 => wtm_at "ln"); (case' h226 => wtm_at "ln"); (case' h326 => wtm_at "ln"); (case' h426 => wtm_at "ln"))
  | ((with_reducible refine' g_lenL ?h27 ?k27); (case' h27 => wtm_at "sl"))
  | ((with_reducible refine' g_lenT ?h28 ?k28); (case' h28 => wtm_at "st"))
  | ((with_reducible refine' g_listL ?h29 ?k29); (case' h29 => wtm_at "sl"); (case' k29 => intro _ _ _ _ _))
  | ((with_reducible refine' g_tupleL ?h30 ?k30); (case' h30 => wtm_at "sl"); (case' k30 => intro _ _ _ _ _))
  | with_reducible refine' g_max ?_
  | with_reducible refine' g_min ?_
  | with_reducible refine' g_intB ?_
  | with_reducible refine' g_fld ?_
  | with_reducible refine' g_put ?_
  | with_reducible refine' g_dget ?_
  | with_reducible refine' g_isN ?_
  | with_reducible refine' g_notN ?_
  | with_reducible refine' g_ifE ?_
  | with_reducible refine' g_andV ?_
  | with_reducible refine' g_orV ?_
  | with_reducible refine' g_notV ?_
  | with_reducible refine' g_kIf ?_
  | with_reducible refine' g_chain ?_
  | with_reducible refine' g_kCh ?_
  | with_reducible refine' g_sub ?_
  | ((with_reducible refine' g_setI ?h92 ?e92 ?j92 ?k92); (case' h92 => wtm_at "hp"); (case' e92 => first | exact rfl | assumption); (case' j92 => wtm_at "ln"); (case' k92 => intro _ _ _))
  | ((with_reducible refine' g_setL ?h89 ?i89 ?k89); (case' h89 => wtm_at "hp"); (case' i89 => exact ixE rfl (by wtm_at "ln")); (case' k89 => intro _ _ _))
  | ((with_reducible refine' g_gtup ?h93 ?e93 ?k93); (case' h93 => wtm_at "st"); (case' e93 => exact rfl))
  | with_reducible refine' g_gcons ?_
  | with_reducible refine' g_gnil ?_
  | with_reducible refine' g_par ?_
  | with_reducible refine' g_kPar ?_
  | with_reducible refine' g_meth ?_
  | with_reducible refine' g_bm ?_
  | with_reducible refine' g_bm0 ?_
  | with_reducible refine' g_raise ?_
  | with_reducible refine' g_for ?_
  | with_reducible refine' g_iR1 ?_
  | with_reducible refine' g_iR2 ?_
  | with_reducible refine' g_iL ?_
  | with_reducible refine' g_lc ?_
  | with_reducible refine' g_retN ?_
  | with_reducible refine' g_no (b := false) rfl ?_
  | with_reducible refine' g_yes (b := true) rfl ?_)
local macro_rules | `(tactic| wtm_at "go") => `(tactic| repeat (wtm_at "g1"))
local macro_rules | `(tactic| wtm_at "gs") => `(tactic| repeat ((fail_if_success (with_reducible refine' g_ifE ?_)); wtm_at "g1"))
local macro_rules | `(tactic| wtm_at "gi") => `(tactic| repeat ((fail_if_success (with_reducible refine' g_if ?_)); wtm_at "g1"))
local macro_rules | `(tactic| wtm_at "gr") => `(tactic| repeat ((fail_if_success (with_reducible refine' g_ret ?_)); wtm_at "g1"))
local macro_rules | `(tactic| wtm_at "gq") => `(tactic| repeat ((fail_if_success (with_reducible refine' g_asg ?_)); wtm_at "g1"))
/-! ### codes at a list -/
def CdAll (H : Hp) : List V → List Cd → Prop
  | [], [] => True
  | u :: us, z :: zs => (∃ t, u = .ref t ∧ H t = some (.tup z.vs)) ∧ CdAll H us zs
  | _, _ => False
theorem CdAll.mx {S : List Addr} {H H' : Hp} (m : Mx S H H') (n : NoTup H S) : ∀ {us : List V} {zs : List Cd}, CdAll H us zs → CdAll H' us zs
  | [], [], _ => trivial
  | u :: us, z :: zs, ⟨⟨t, e, h⟩, r⟩ => ⟨⟨t, e, mx_tup m n h⟩, CdAll.mx m n r⟩
  | [], _ :: _, h => h.elim
  | _ :: _, [], h => h.elim
theorem CdAll.extn {H H' : Hp} (e : LamX.ExtN H H') : ∀ {us : List V} {zs : List Cd}, CdAll H us zs → CdAll H' us zs
  | [], [], _ => trivial
  | u :: us, z :: zs, ⟨⟨t, e1, h⟩, r⟩ => ⟨⟨t, e1, e _ _ h (fun _ z => nomatch z)⟩, CdAll.extn e r⟩
  | [], _ :: _, h => h.elim
  | _ :: _, [], h => h.elim
theorem CdAll.app {H : Hp} : ∀ {us ws : List V} {zs ys : List Cd}, CdAll H us zs → CdAll H ws ys → CdAll H (us ++ ws) (zs ++ ys)
  | [], _, [], _, _, h => h
  | u :: us, _, z :: zs, _, ⟨a, r⟩, h => ⟨a, CdAll.app r h⟩
  | [], _, _ :: _, _, h, _ => h.elim
  | _ :: _, _, [], _, h, _ => h.elim
theorem CdAll.len {H : Hp} : ∀ {us : List V} {zs : List Cd}, CdAll H us zs → us.length = zs.length
  | [], [], _ => rfl
  | u :: us, z :: zs, ⟨_, r⟩ => by simp [CdAll.len r]
  | [], _ :: _, h => h.elim
  | _ :: _, [], h => h.elim
theorem CdAll.get' {H : Hp} : ∀ {us : List V} {zs : List Cd} {i : Nat} {u : V}, CdAll H us zs → us[i]? = some u → ∃ z t, zs[i]? = some z ∧ u = .ref t ∧ H t = some (.tup z.vs)
  | [], [], _, _, _, e => by simp at e
  | u :: us, z :: zs, 0, x, ⟨⟨t, e1, h⟩, _⟩, e => by simp at e; subst e; exact ⟨z, t, rfl, e1, h⟩
  | u :: us, z :: zs, i + 1, x, ⟨_, r⟩, e => by
    obtain ⟨y, t, h1, h2⟩ := CdAll.get' (i := i) r (by simpa using e)
    exact ⟨y, t, by simpa using h1, h2⟩
  | [], _ :: _, _, _, h, _ => h.elim
  | _ :: _, [], _, _, h, _ => h.elim
theorem CdAll.dp {K : PySem.W.Frag} {H : Hp} : ∀ {us : List V} {zs : List Cd}, CdAll H us zs → DpAll K H us (zs.map cdD)
  | [], [], _ => .nil
  | u :: us, z :: zs, ⟨⟨t, e, h⟩, r⟩ => by
    subst e
    exact .cons (.tup (.of h) (.cons (.int _) (.cons (.int _) (.cons (.int _) (.cons (.int _) .nil))))) (CdAll.dp r)
  | [], _ :: _, h => h.elim
  | _ :: _, [], h => h.elim
end Fk
namespace Fk
open PySem PySem.Spec PyProof.Rows L2
local macro_rules | `(tactic| wtm_at "ln") => `(tactic| first
  | omega
  | (simp only [List.length_cons, List.length_nil, List.length_map, List.length_append, List.length_replicate, List.length_take, List.length_drop, List.length_set]; omega)
  | (with_unfolding_all exact (by decide)))
local macro_rules | `(tactic| wtm_at "ar") => `(tactic| first
  | ((with_reducible show CMulW _ _); (refine' mulS ?_ ?_ <;> omega))
  | ((with_reducible show CDivW _ _); (refine' divS ?_ ?_ <;> omega))
  | ((with_reducible show CPow _ _); exact ⟨by decide, by decide, by decide⟩)
  | (show (0 : Int) < _; omega)
  | (with_unfolding_all exact (by decide)))
local macro_rules | `(tactic| wtm_at "at") => `(tactic| first
  | assumption
  | (refine' cl_atE ?e80 ?h80; (case' e80 => first | exact rfl | assumption); (case' h80 => wtm_at "ln"))
  | exact rfl)
local macro_rules | `(tactic| wtm_at "fr") => `(tactic| first
  | assumption
  | ((with_reducible refine' Mx.free0 ?m99 ?h99); (case' h99 => assumption); (case' m99 => wtm_at "mo")))
local macro_rules | `(tactic| wtm_at "hp") => `(tactic| first
  | assumption
  | ((with_reducible refine' Mx.get0 ?m1 ?h1); (case' m1 => assumption); (case' h1 => wtm_at "hp"))
  | ((with_reducible refine' Mx.get ?m2 ?n2 ?h2); (case' m2 => assumption); (case' n2 => wtm_at "nin"); (case' h2 => wtm_at "hp")))
local macro_rules | `(tactic| wtm_at "sl") => `(tactic| first
  | assumption
  | ((with_reducible refine' Mx.sqL0 ?m96 ?h96); (case' h96 => assumption); (case' m96 => wtm_at "mo"))
  | (refine' SqL.of ?h3; (case' h3 => wtm_at "hp"))
  | ((with_reducible refine' Mx.sqL0 ?m4 ?h4); (case' m4 => assumption); (case' h4 => wtm_at "sl"))
  | ((with_reducible refine' Mx.sqL ?m5 ?n5 ?h5); (case' m5 => assumption); (case' n5 => wtm_at "nin"); (case' h5 => wtm_at "sl")))
local macro_rules | `(tactic| wtm_at "st") => `(tactic| first
  | assumption
  | ((with_reducible refine' Mx.sqT0 ?m97 ?h97); (case' h97 => assumption); (case' m97 => wtm_at "mo"))
  | (refine' SqT.of ?h6; (case' h6 => wtm_at "hp"))
  | ((with_reducible refine' Mx.sqT0 ?m7 ?h7); (case' m7 => assumption); (case' h7 => wtm_at "st"))
  | ((with_reducible refine' Mx.sqT ?m8 ?n8 ?h8); (case' m8 => assumption); (case' n8 => wtm_at "nin"); (case' h8 => wtm_at "st")))
local macro_rules | `(tactic| wtm_at "mx") => `(tactic| first
  | assumption
  | exact Mx.refl
  | ((with_reducible refine' Mx.of0 ?h9); (case' h9 => assumption))
  | ((with_reducible refine' Mx.trans ?h10 ?m10); (case' m10 => first | assumption | ((with_reducible refine' Mx.of0 ?q10); (case' q10 => assumption))); (case' h10 => wtm_at "mx")))
local macro_rules | `(tactic| wtm_at "mo") => `(tactic| first
  | wtm_at "mx"
  | ((with_reducible refine' Mx.own ?m90 ?f90 ?k90); (case' k90 => assumption); (case' f90 => wtm_at "fr"); (case' m90 => wtm_at "mo"))
  | ((with_reducible refine' Mx.trans ?h91 ?m91); (case' m91 => first | assumption | ((with_reducible refine' Mx.of0 ?q91); (case' q91 => assumption))); (case' h91 => wtm_at "mo")))
local macro_rules | `(tactic| wtm_at "ne") => `(tactic| first
  | assumption
  | exact Ne.symm (by assumption)
  | ((with_reducible refine' ne_of_none ?x94 ?y94); (case' y94 => assumption); (case' x94 => wtm_at "hp"))
  | ((with_reducible refine' Ne.symm (ne_of_none ?x95 ?y95)); (case' y95 => assumption); (case' x95 => wtm_at "hp")))
local macro_rules | `(tactic| wtm_at "nin") => `(tactic| first
  | assumption
  | exact List.not_mem_nil
  | ((with_reducible refine' List.not_mem_cons_of_ne_of_not_mem ?h98 ?t98); (case' h98 => wtm_at "ne"); (case' t98 => wtm_at "nin")))
local macro_rules | `(tactic| wtm_at "g1") => `(tactic| first
  | ((with_reducible refine' g_var ?h11 ?k11); (case' h11 => exact rfl))
  | with_reducible refine' g_c ?_
  | with_reducible refine' g_op ?_
  | with_reducible refine' g_I0 ?_
  | ((with_reducible refine' g_I ?c12 ?k12); (case' c12 => wtm_at "ar"))
  | with_reducible refine' g_cons ?_
  | with_reducible refine' g_nil ?_
  | with_reducible refine' g_seq ?_
  | with_reducible refine' g_asg ?_
  | with_reducible refine' g_name ?_
  | with_reducible refine' g_ret ?_
  | with_reducible refine' g_if ?_
  | with_reducible refine' g_test ?_
  | with_reducible refine' g_tB ?_
  | with_reducible refine' g_bl ?_
  | ((with_reducible refine' g_eq ?h13 ?k13); (case' h13 => exact rfl))
  | ((with_reducible refine' g_ne ?h14 ?k14); (case' h14 => exact rfl))
  | with_reducible refine' g_CB ?_
  | with_reducible refine' g_call ?_
  | with_reducible refine' g_drop ?_
  | with_reducible refine' g_next ?_
  | with_reducible refine' g_not ?_
  | with_reducible refine' g_and ?_
  | with_reducible refine' g_or ?_
  | with_reducible refine' g_un ?_
  | with_reducible refine' g_U ?_
  | with_reducible refine' g_tup ?_
  | with_reducible refine' g_lst ?_
  | ((with_reducible refine' g_kNew ?h15 ?k15); (case' h15 => wtm_at "ln"); (case' k15 => intro _ _ _ _ _))
  | ((with_reducible refine' g_ixL ?h16 ?a16 ?k16); (case' h16 => wtm_at "sl"); (case' a16 => wtm_at "at"))
  | ((with_reducible refine' g_ixT ?h17 ?a17 ?k17); (case' h17 => wtm_at "st"); (case' a17 => wtm_at "at"))
  | with_reducible refine' g_slice ?_
  | with_reducible refine' g_part ?_
  | with_reducible refine' g_kPart ?_
  | with_reducible refine' g_noPart ?_
  | ((with_reducible refine' g_slL ?h18 ?k18); (case' h18 => wtm_at "sl"); (case' k18 => intro _ _ _ _ _))
  | ((with_reducible refine' g_cat ?h119 ?h219 ?l19 ?k19); (case' h119 => wtm_at "hp"); (case' h219 => wtm_at "hp"); (case' l19 => wtm_at "ln"); (case' k19 => intro _ _ _ _ _))
  | ((with_reducible refine' g_rep ?h120 ?h220 ?h320 ?l20 ?k20); (case' h120 => wtm_at "hp"); (case' h220 => wtm_at "ln"); (case' h320 => wtm_at "ln"); (case' l20 => wtm_at "ln"); (case' k20 => intro _ _ _ _ _))
  | ((with_reducible refine' g_append ?h21 ?l21 ?k21); (case' h21 => wtm_at "hp"); (case' l21 => wtm_at "ln"); (case' k21 => intro _ _ _))
  | ((with_reducible refine' g_kBM ?h22 ?k22); (case' h22 => wtm_at "sl"))
  | ((with_reducible refine' g_kBM0 ?h23 ?k23); (case' h23 => wtm_at "sl"))
  | ((with_reducible refine' g_kL ?h24 ?k24); (case' h24 => wtm_at "sl"))
  | ((with_reducible refine' g_kR1 ?h125 ?h225 ?k25); (case' h125 => wtm_at "ln"); (case' h225 => wtm_at "ln"))
  | ((with_reducible refine' g_kR2 ?h126 ?h226 ?h326 ?h426 ?k26); (case' h126 => wtm_at "ln"); (case' h226 => wtm_at "ln"); (case' h326 => wtm_at "ln"); (case' h426 => wtm_at "ln"))
  | ((with_reducible refine' g_lenL ?h27 ?k27); (case' h27 => wtm_at "sl"))
  | ((with_reducible refine' g_lenT ?h28 ?k28); (case' h28 => wtm_at "st"))
  | ((with_reducible refine' g_listL ?h29 ?k29); (case' h29 => wtm_at "sl"); (case' k29 => intro _ _ _ _ _))
  | ((with_reducible refine' g_tupleL ?h30 ?k30); (case' h30 => wtm_at "sl"); (case' k30 => intro _ _ _ _ _))
  | with_reducible refine' g_max ?_
  | with_reducible refine' g_min ?_
  | with_reducible refine' g_intB ?_
  | with_reducible refine' g_fld ?_
  | with_reducible refine' g_put ?_
  | with_reducible refine' g_dget ?_
  | with_reducible refine' g_isN ?_
  | with_reducible refine' g_notN ?_
  | with_reducible refine' g_ifE ?_
  | with_reducible refine' g_andV ?_
  | with_reducible refine' g_orV ?_
  | with_reducible refine' g_notV ?_
  | with_reducible refine' g_kIf ?_
  | with_reducible refine' g_chain ?_
  | with_reducible refine' g_kCh ?_
  | with_reducible refine' g_sub ?_
  | ((with_reducible refine' g_setI ?h92 ?e92 ?j92 ?k92); (case' h92 => wtm_at "hp"); (case' e92 => first | exact rfl | assumption); (case' j92 => wtm_at "ln"); (case' k92 => intro _ _ _))
  | ((with_reducible refine' g_setL ?h89 ?i89 ?k89); (case' h89 => wtm_at "hp"); (case' i89 => exact ixE rfl (by wtm_at "ln")); (case' k89 => intro _ _ _))
  | ((with_reducible refine' g_gtup ?h93 ?e93 ?k93); (case' h93 => wtm_at "st"); (case' e93 => exact rfl))
  | with_reducible refine' g_gcons ?_
  | with_reducible refine' g_gnil ?_
  | with_reducible refine' g_par ?_
  | with_reducible refine' g_kPar ?_
  | with_reducible refine' g_meth ?_
  | with_reducible refine' g_bm ?_
  | with_reducible refine' g_bm0 ?_
  | with_reducible refine' g_raise ?_
  | with_reducible refine' g_for ?_
  | with_reducible refine' g_iR1 ?_
  | with_reducible refine' g_iR2 ?_
  | with_reducible refine' g_iL ?_
  | with_reducible refine' g_lc ?_
  | with_reducible refine' g_retN ?_
  | with_reducible refine' g_no (b := false) rfl ?_
  | with_reducible refine' g_yes (b := true) rfl ?_)
local macro_rules | `(tactic| wtm_at "go") => `(tactic| repeat (wtm_at "g1"))
local macro_rules | `(tactic| wtm_at "gs") => `(tactic| repeat ((fail_if_success (with_reducible refine' g_ifE ?_)); wtm_at "g1"))
local macro_rules | `(tactic| wtm_at "gi") => `(tactic| repeat ((fail_if_success (with_reducible refine' g_if ?_)); wtm_at "g1"))
local macro_rules | `(tactic| wtm_at "gr") => `(tactic| repeat ((fail_if_success (with_reducible refine' g_ret ?_)); wtm_at "g1"))
local macro_rules | `(tactic| wtm_at "gq") => `(tactic| repeat ((fail_if_success (with_reducible refine' g_asg ?_)); wtm_at "g1"))
/-! ### houses -/
structure Hs where
  key : Int
  money : Int
  spent : Int
  ms : List Int
  iss : Int → List Cd
  tkn : Int → List Cd
def hFlds (η : Hs) (di dt : Addr) : List (Str × V) := [("key", .int η.key), ("money", .int η.money), ("spent", .int η.spent), ("issues", .ref di), ("taken", .ref dt)]
/-- lists of codes, one for each meter -/
def CdL (H : Hp) (ms : List Int) (a : Int → Addr) (c : Int → List Cd) : Prop := ∀ m ∈ ms, ∃ us, H (a m) = some (.lst us) ∧ CdAll H us (c m)
theorem CdL.mx {S : List Addr} {H H' : Hp} {ms : List Int} {a : Int → Addr} {c : Int → List Cd} (h : CdL H ms a c) (m : Mx S H H') (n : NoTup H S) (f : ∀ j ∈ ms, a j ∉ S) : CdL H' ms a c := fun j hj => by
  obtain ⟨us, e, d⟩ := h j hj
  exact ⟨us, m _ _ e (f j hj), d.mx m n⟩
structure HsAt (C : Addr) (H : Hp) (h di dt : Addr) (ai ak : Int → Addr) (η : Hs) : Prop where
  ob : ∃ dx, H h = some (.ins C dx (hFlds η di dt))
  di : H di = some (.dK (kvO η.ms ai))
  dt : H dt = some (.dK (kvO η.ms ak))
  li : CdL H η.ms ai η.iss
  lk : CdL H η.ms ak η.tkn
def ftH (h di dt : Addr) (ai ak : Int → Addr) (ms : List Int) : List Addr := h :: di :: dt :: (ms.map ai ++ ms.map ak)
theorem ftH_i {h di dt : Addr} {ai ak : Int → Addr} {ms : List Int} {m : Int} (hm : m ∈ ms) : ai m ∈ ftH h di dt ai ak ms := by
  simp only [ftH, List.mem_cons, List.mem_append]
  exact .inr (.inr (.inr (.inl (List.mem_map_of_mem hm))))
theorem ftH_k {h di dt : Addr} {ai ak : Int → Addr} {ms : List Int} {m : Int} (hm : m ∈ ms) : ak m ∈ ftH h di dt ai ak ms := by
  simp only [ftH, List.mem_cons, List.mem_append]
  exact .inr (.inr (.inr (.inr (List.mem_map_of_mem hm))))
theorem HsAt.mx {C : Addr} {S : List Addr} {H H' : Hp} {h di dt : Addr} {ai ak : Int → Addr} {η : Hs} (M : HsAt C H h di dt ai ak η) (m : Mx S H H') (n : NoTup H S) (f : ∀ x ∈ ftH h di dt ai ak η.ms, x ∉ S) : HsAt C H' h di dt ai ak η := by
  obtain ⟨⟨dx, ob⟩, di', dt', li, lk⟩ := M
  exact ⟨⟨dx, m _ _ ob (f _ (by simp [ftH]))⟩, m _ _ di' (f _ (by simp [ftH])), m _ _ dt' (f _ (by simp [ftH])), li.mx m n fun j hj => f _ (ftH_i hj), lk.mx m n fun j hj => f _ (ftH_k hj)⟩
theorem HsAt.mx0 {C : Addr} {H H' : Hp} {h di dt : Addr} {ai ak : Int → Addr} {η : Hs} (M : HsAt C H h di dt ai ak η) (m : Mx [] H H') : HsAt C H' h di dt ai ak η := M.mx m noTup0 fun _ _ => by simp
/-- the lists are apart -/
structure Hin (ms : List Int) (ai ak : Int → Addr) : Prop where
  i1 : ∀ m ∈ ms, ∀ m' ∈ ms, ai m = ai m' → m = m'
  i2 : ∀ m ∈ ms, ∀ m' ∈ ms, ak m = ak m' → m = m'
  i3 : ∀ m ∈ ms, ∀ m' ∈ ms, ai m ≠ ak m'
/-- the numbers are of some size -/
structure Hw (n : Nat) (η : Hs) : Prop where
  kk : 0 ≤ η.key ∧ η.key ≤ 999981
  mo : η.money.natAbs ≤ 100000 * n
  sp : η.spent.natAbs ≤ 100000 * n
  mb : ∀ m ∈ η.ms, 1 ≤ m ∧ m ≤ 9999
  li : ∀ m ∈ η.ms, (η.iss m).length ≤ n
  lk : ∀ m ∈ η.ms, (η.tkn m).length ≤ n
  nd : η.ms.Nodup
  ln : 1 ≤ η.ms.length ∧ η.ms.length ≤ 4
def setM {α : Type} (f : Int → α) (m : Int) (v : α) : Int → α := fun j => if j = m then v else f j
theorem setM_same {α : Type} {f : Int → α} {m : Int} {v : α} : setM f m v m = v := if_pos rfl
theorem setM_ne {α : Type} {f : Int → α} {m j : Int} {v : α} (h : j ≠ m) : setM f m v j = f j := if_neg h
theorem amtB {a : Int} (h : ¬ amt a = false) : 1 ≤ a ∧ a ≤ 99999 := by
  unfold amt at h
  simp at h
  exact h
/-! what deeds do -/
inductive HD where
  | buy (a : Int) | iss (m a : Int) | tk (z : Cd)
def issC (η : Hs) (m a : Int) : Cd := mkCd η.key m ((η.iss m).length + 1) a 1
def resH (η : Hs) : HD → Option Rf
  | .buy a => if amt a = true then none else some .amount
  | .iss m a => if ¬ m ∈ η.ms then some .meter else if amt a = false then some .amount else if η.money < a then some .short else none
  | .tk z => if ¬ z.m ∈ η.ms then some .code else if good η.key z z.m ((η.tkn z.m).length + 1) 2 = false then some .code else none
def newH (η : Hs) : HD → Hs
  | .buy a => { η with money := η.money + a, spent := η.spent + a }
  | .iss m a => { η with money := η.money - a, iss := setM η.iss m (η.iss m ++ [issC η m a]) }
  | .tk z => { η with money := η.money + z.a, tkn := setM η.tkn z.m (η.tkn z.m ++ [z]) }
def telH (η : Hs) : HD → PyData
  | .buy a => .int (η.money + a)
  | .iss m a => cdD (issC η m a)
  | .tk z => .int z.a
def dueH (η : Hs) (d : HD) : PyData × Hs := match resH η d with
  | some r => (.str r.word, η)
  | none => (telH η d, newH η d)
theorem newH_ms (η : Hs) (d : HD) : (newH η d).ms = η.ms := by cases d <;> rfl
theorem dueH_ms (η : Hs) (d : HD) : (dueH η d).2.ms = η.ms := by
  unfold dueH
  cases resH η d with
  | some r => rfl
  | none => exact newH_ms η d
theorem dueH_w {n : Nat} {η : Hs} (W : Hw n η) (d : HD) : Hw (n + 1) (dueH η d).2 := by
  obtain ⟨kk, mo, sp, mb, li, lk, nd, ln⟩ := W
  unfold dueH
  cases hr : resH η d with
  | some r => exact ⟨kk, by show η.money.natAbs ≤ _; omega, by show η.spent.natAbs ≤ _; omega, mb, fun m h => Nat.le_succ_of_le (li m h), fun m h => Nat.le_succ_of_le (lk m h), nd, ln⟩
  | none =>
    cases d with
    | buy a =>
      have ha : 1 ≤ a ∧ a ≤ 99999 := by
        refine amt_iff.mp (Classical.byContradiction fun z => ?_)
        simp only [resH, if_neg z] at hr
        cases hr
      exact ⟨kk, by show (η.money + a).natAbs ≤ _; omega, by show (η.spent + a).natAbs ≤ _; omega, mb, fun m h => Nat.le_succ_of_le (li m h), fun m h => Nat.le_succ_of_le (lk m h), nd, ln⟩
    | iss m a =>
      have ha : 1 ≤ a ∧ a ≤ 99999 := amtB fun z => by simp only [resH, z] at hr; split at hr <;> simp at hr
      refine ⟨kk, by show (η.money - a).natAbs ≤ _; omega, by show η.spent.natAbs ≤ _; omega, mb, fun j h => ?_, fun m h => Nat.le_succ_of_le (lk m h), nd, ln⟩
      show (setM η.iss m _ j).length ≤ _
      by_cases e : j = m
      · subst e; rw [setM_same, List.length_append]; have := li j h; simp; omega
      · rw [setM_ne e]; exact Nat.le_succ_of_le (li j h)
    | tk z =>
      have ha : 1 ≤ z.a ∧ z.a ≤ 99999 := amtB fun q => by simp only [resH, good, q, Bool.and_false, Bool.false_and] at hr; split at hr <;> simp at hr
      refine ⟨kk, by show (η.money + z.a).natAbs ≤ _; omega, by show η.spent.natAbs ≤ _; omega, mb, fun m h => Nat.le_succ_of_le (li m h), fun j h => ?_, nd, ln⟩
      show (setM η.tkn z.m _ j).length ≤ _
      by_cases e : j = z.m
      · subst e; rw [setM_same, List.length_append]; have := lk z.m h; simp; omega
      · rw [setM_ne e]; exact Nat.le_succ_of_le (lk j h)
theorem shaped_cds (zs : List Cd) : SeqAt.shaped (.list (zs.map cdD)) = true := by
  have h1 : ∀ zs : List Cd, PyData.canLayAll0 (zs.map cdD) = true := fun zs => by
    induction zs with
    | nil => rfl
    | cons z r ih => simp [PyData.canLayAll0, PyData.canLay0, cdD, ih]
  have h2 : ∀ zs : List Cd, PyData.depthAll (zs.map cdD) ≤ 1 := fun zs => by
    induction zs with
    | nil => simp [PyData.depthAll]
    | cons z r ih => simp [PyData.depthAll, PyData.depth, cdD]; omega
  have := h2 zs
  simp [SeqAt.shaped, PyData.canLay0, h1, PyData.depth]
  omega
theorem eqv_nil (zs : List Cd) : PyData.eqv (.list (zs.map cdD)) (.list []) = decide (zs = []) := by
  cases zs with
  | nil => simp [PyData.eqv, PyData.eqvAll]
  | cons z r => simp [PyData.eqv, PyData.eqvAll]
def lastD (zs : List Cd) : PyData := match zs.getLast? with
  | none => .none
  | some z => cdD z
theorem CdAll.last {H : Hp} {us : List V} {zs : List Cd} (h : CdAll H us zs) (hn : zs ≠ []) : ∃ t z, atI us (-1) = some (.ref t) ∧ zs.getLast? = some z ∧ H t = some (.tup z.vs) := by
  have hl := h.len
  have h0 : zs.length ≠ 0 := fun z => hn (List.length_eq_zero_iff.mp z)
  obtain ⟨u, hu⟩ : ∃ u, us[us.length - 1]? = some u := ⟨_, List.getElem?_eq_getElem (by omega)⟩
  obtain ⟨z, t, hz, rfl, ht⟩ := h.get' hu
  refine ⟨t, z, ?_, ?_, ht⟩
  · unfold atI ixN
    rw [if_neg (by omega), if_pos (by omega)]
    show us[(-1 + (us.length : Int)).toNat]? = _
    rw [show (-1 + (us.length : Int)).toNat = us.length - 1 by omega]
    exact hu
  · rw [List.getLast?_eq_getElem?, ← hl]; exact hz
section
variable {P : Program} {w : World} {K : PySem.W.Frag} {mg : Str → Option Value} {base : Heap}
section
variable {σ : L2.St} {H : Hp} {Q : VK} {p di dt dx : Addr} {η : Hs} {N : Hp → Prop} {b : Int}
theorem g_hKey (T : Tx K mg) (h : H p = some (.ins T.C_House dx (hFlds η di dt))) (k : Q (.int η.key) H) : kFld K "key" Q (.ref p) H := g_kFld h T.cls_House T.na_House_key rfl k
theorem g_hMon (T : Tx K mg) (h : H p = some (.ins T.C_House dx (hFlds η di dt))) (k : Q (.int η.money) H) : kFld K "money" Q (.ref p) H := g_kFld h T.cls_House T.na_House_money rfl k
theorem g_hSpe (T : Tx K mg) (h : H p = some (.ins T.C_House dx (hFlds η di dt))) (k : Q (.int η.spent) H) : kFld K "spent" Q (.ref p) H := g_kFld h T.cls_House T.na_House_spent rfl k
theorem g_hIss (T : Tx K mg) (h : H p = some (.ins T.C_House dx (hFlds η di dt))) (k : Q (.ref di) H) : kFld K "issues" Q (.ref p) H := g_kFld h T.cls_House T.na_House_issues rfl k
theorem g_hTak (T : Tx K mg) (h : H p = some (.ins T.C_House dx (hFlds η di dt))) (k : Q (.ref dt) H) : kFld K "taken" Q (.ref p) H := g_kFld h T.cls_House T.na_House_taken rfl k
theorem g_hpMon (T : Tx K mg) (h : H p = some (.ins T.C_House dx (hFlds η di dt))) (k : ∀ H', Mx [p] H H' → H' p = some (.ins T.C_House dx (hFlds { η with money := b } di dt)) → N H') : kPut K "money" (.int b) N (.ref p) H :=
  g_kPut h T.cls_House T.na_House_money rfl (by show 5 < 1000; decide) k
theorem g_hpSpe (T : Tx K mg) (h : H p = some (.ins T.C_House dx (hFlds η di dt))) (k : ∀ H', Mx [p] H H' → H' p = some (.ins T.C_House dx (hFlds { η with spent := b } di dt)) → N H') : kPut K "spent" (.int b) N (.ref p) H :=
  g_kPut h T.cls_House T.na_House_spent rfl (by show 5 < 1000; decide) k
end
local macro_rules | `(tactic| wtm_at "g1") => `(tactic| first
  | ((with_reducible refine' g_hKey (by assumption) ?h501 ?k501); (case' h501 => wtm_at "hp"))
  | ((with_reducible refine' g_hMon (by assumption) ?h502 ?k502); (case' h502 => wtm_at "hp"))
  | ((with_reducible refine' g_hSpe (by assumption) ?h503 ?k503); (case' h503 => wtm_at "hp"))
  | ((with_reducible refine' g_hIss (by assumption) ?h504 ?k504); (case' h504 => wtm_at "hp"))
  | ((with_reducible refine' g_hTak (by assumption) ?h505 ?k505); (case' h505 => wtm_at "hp"))
  | ((with_reducible refine' g_hpMon (by assumption) ?h506 ?k506); (case' h506 => wtm_at "hp"); (case' k506 => intro _ _ _))
  | ((with_reducible refine' g_hpSpe (by assumption) ?h507 ?k507); (case' h507 => wtm_at "hp"); (case' k507 => intro _ _ _))
  | ((with_reducible refine' g_kMeth ?h508 ?l508 ?k508); (case' h508 => wtm_at "hp"); (case' l508 => exact rfl))
  | ((with_reducible refine' g_kDGetI ?h509 ?l509 ?k509); (case' h509 => wtm_at "hp"); (case' l509 => wtm_at "kv"))
  | (with_reducible refine' g_dni ?_)
  | ((with_reducible refine' g_kDNi ?h510 ?k510); (case' h510 => wtm_at "hp"))
  | (with_reducible refine' g_lenSet ?_))
local macro_rules | `(tactic| wtm_at "kv") => `(tactic| first
  | exact kvO_get (by assumption)
  | exact rfl)

def spHFunds (T : Tx K mg) : Sp := fun vs H Q _ => ∃ (h di dt : Addr) (ai ak : Int → Addr) (η : Hs), vs = [.ref h] ∧ HsAt T.C_House H h di dt ai ak η ∧ Q (.int η.money) H
theorem mt_House_funds (T : Tx K mg) : Me P w K mg base 1 T.C_House "funds" (spHFunds T) [] := by
  refine T.m_House_funds.me T.cls_House sc_House_funds (fun vs H Q E h => ?_) (fun cdv A outer s H vs Q E hr h => ?_)
  · obtain ⟨_, _, _, _, _, _, rfl, _⟩ := h
    rfl
  · obtain ⟨h, di, dt, ai, ak, η, rfl, ⟨⟨dx, ob⟩, _, _, _, _⟩, q⟩ := h
    refine ⟨_, (pss_one (ps_ret (fldK K (pv 0) rfl))), ?_⟩
    wtm_at "go"
    exact q
def spHBought (T : Tx K mg) : Sp := fun vs H Q _ => ∃ (h di dt : Addr) (ai ak : Int → Addr) (η : Hs), vs = [.ref h] ∧ HsAt T.C_House H h di dt ai ak η ∧ Q (.int η.spent) H
theorem mt_House_bought (T : Tx K mg) : Me P w K mg base 1 T.C_House "bought" (spHBought T) [] := by
  refine T.m_House_bought.me T.cls_House sc_House_bought (fun vs H Q E h => ?_) (fun cdv A outer s H vs Q E hr h => ?_)
  · obtain ⟨_, _, _, _, _, _, rfl, _⟩ := h
    rfl
  · obtain ⟨h, di, dt, ai, ak, η, rfl, ⟨⟨dx, ob⟩, _, _, _, _⟩, q⟩ := h
    refine ⟨_, (pss_one (ps_ret (fldK K (pv 0) rfl))), ?_⟩
    wtm_at "go"
    exact q
def spNeedMeter (T : Tx K mg) : Sp := fun vs H Q E => ∃ (h di dt : Addr) (ai ak : Int → Addr) (η : Hs) (m : Int), vs = [.ref h, .int m] ∧ HsAt T.C_House H h di dt ai ak η ∧ (m ∈ η.ms → Q .non H) ∧ (¬ m ∈ η.ms → E (.ref T.E_NoMeter) none H)
theorem mt_House_need_meter (T : Tx K mg) : Me P w K mg base 1 T.C_House "need_meter" (spNeedMeter T) [] := by
  refine T.m_House_need_meter.me T.cls_House sc_House_need_meter (fun vs H Q E h => ?_) (fun cdv A outer s H vs Q E hr h => ?_)
  · obtain ⟨_, _, _, _, _, _, _, rfl, _⟩ := h
    rfl
  · obtain ⟨h, di, dt, ai, ak, η, m, rfl, ⟨⟨dx, ob⟩, hdi, hdt, _, _⟩, q1, q2⟩ := h
    have hu := hu_of hr
    refine ⟨_, (pss_one (ps_if (pt_cmp (pc_dnotin hu (pv 1) (fldK K (pv 0) rfl)) rfl) (pss_one (q_raise rfl (takes_of rfl rfl rfl rfl) T.x_NoMeter rfl)) pss_nil)), ?_⟩
    wtm_at "go"
    rw [kvO_in]
    refine g_ite (fun e => ?_) (fun e => ?_)
    · wtm_at "go"
      exact q2 (by simpa using e)
    · wtm_at "go"
      exact q1 (by simpa using e)
def spHBuy (T : Tx K mg) : Sp := fun vs H Q E => ∃ (h di dt : Addr) (ai ak : Int → Addr) (η : Hs) (a : Int), vs = [.ref h, .int a] ∧ HsAt T.C_House H h di dt ai ak η ∧ (∀ r, resH η (.buy a) = some r → E (.ref (r.at T)) none H) ∧
  (resH η (.buy a) = none → ∀ H', Mx [h] H H' → HsAt T.C_House H' h di dt ai ak (newH η (.buy a)) → Q (.int (η.money + a)) H')
theorem HsAt.fld {C : Addr} {H H' : Hp} {h di dt dx : Addr} {ai ak : Int → Addr} {η η' : Hs} (M : HsAt C H h di dt ai ak η) (m : Mx [h] H H') (e : H' h = some (.ins C dx (hFlds η' di dt))) (e1 : η'.ms = η.ms) (e2 : η'.iss = η.iss) (e3 : η'.tkn = η.tkn) : HsAt C H' h di dt ai ak η' := by
  obtain ⟨⟨dx0, ob⟩, di', dt', li, lk⟩ := M
  have nt : NoTup H [h] := noTupI ob
  refine ⟨⟨dx, e⟩, ?_, ?_, ?_, ?_⟩
  · rw [e1]; exact m _ _ di' (by simp; exact (ne_of ob di' fun z => nomatch z).symm)
  · rw [e1]; exact m _ _ dt' (by simp; exact (ne_of ob dt' fun z => nomatch z).symm)
  · rw [e1, e2]; exact li.mx m nt fun j hj => by obtain ⟨us, eu, _⟩ := li j hj; simp; exact (ne_of ob eu fun z => nomatch z).symm
  · rw [e1, e3]; exact lk.mx m nt fun j hj => by obtain ⟨us, eu, _⟩ := lk j hj; simp; exact (ne_of ob eu fun z => nomatch z).symm
theorem mt_House_buy (T : Tx K mg) : Me P w K mg base 3 T.C_House "buy" (spHBuy T) [] := by
  refine T.m_House_buy.me T.cls_House sc_House_buy (fun vs H Q E h => ?_) (fun cdv A outer s H vs Q E hr h => ?_)
  · obtain ⟨_, _, _, _, _, _, _, rfl, _⟩ := h
    rfl
  · obtain ⟨h, di, dt, ai, ak, η, a, rfl, M, q1, q2⟩ := h
    obtain ⟨dx, ob⟩ := M.ob
    refine ⟨_, (pss_cons (ps_expr (q_call (c_need_amount T) hr (by decide) rfl (passes_call (takes_of rfl rfl rfl rfl) (fun _ _ _ _ h => h)) (pa_cons (pv 1) pa_nil)))
      (pss_cons (psFld K (pv 0) (pe_op op_add (fldK K (pv 0) rfl) (pv 1)) rfl)
      (pss_cons (psFld K (pv 0) (pe_op op_add (fldK K (pv 0) rfl) (pv 1)) rfl)
      (pss_one (ps_ret (fldK K (pv 0) rfl)))))), ?_⟩
    wtm_at "go"
    refine ⟨a, rfl, fun ea => ?_, fun ea => q1 .amount (by simp [resH, ea])⟩
    wtm_at "go"
    rename_i H1 m1 e1 H2 m2 e2
    exact q2 (by simp [resH, ea]) H2 (m1.trans m2) (M.fld (m1.trans m2) e2 rfl rfl rfl)
/-- a code comes to a list -/
theorem CdL.push {H H' : Hp} {ms : List Int} {a : Int → Addr} {c : Int → List Cd} {m : Int} {us : List V} {y : V} {z : Cd} (L : CdL H ms a c) (e : H (a m) = some (.lst us)) (d : CdAll H us (c m)) (mm : Mx [a m] H H') (e' : H' (a m) = some (.lst (us ++ [y]))) (hy : ∃ t, y = .ref t ∧ H t = some (.tup z.vs)) (inj : ∀ j ∈ ms, a j = a m → j = m) : CdL H' ms a (setM c m (c m ++ [z])) := fun j hj => by
  have nt : NoTup H [a m] := noTup1 e
  by_cases h : j = m
  · subst h
    rw [setM_same]
    obtain ⟨t, rfl, ht⟩ := hy
    exact ⟨_, e', (d.mx mm nt).app ⟨⟨t, rfl, mx_tup mm nt ht⟩, trivial⟩⟩
  · rw [setM_ne h]
    obtain ⟨us2, e2, d2⟩ := L j hj
    exact ⟨us2, mm _ _ e2 (by simp; exact fun z => h (inj j hj z)), d2.mx mm nt⟩
def spHIssue (T : Tx K mg) : Sp := fun vs H Q E => ∃ (h di dt : Addr) (ai ak : Int → Addr) (η : Hs) (m a : Int) (n : Nat), vs = [.ref h, .int m, .int a] ∧ HsAt T.C_House H h di dt ai ak η ∧ Hin η.ms ai ak ∧ Hw n η ∧ n < 1000 ∧ (∀ r, resH η (.iss m a) = some r → E (.ref (r.at T)) none H) ∧
  (resH η (.iss m a) = none → m ∈ η.ms → ∀ t H', H t = none → Mx [h, ai m] H H' → H' t = some (.tup (issC η m a).vs) → HsAt T.C_House H' h di dt ai ak (newH η (.iss m a)) → Q (.ref t) H')
theorem mt_House_issue (T : Tx K mg) : Me P w K mg base 3 T.C_House "issue" (spHIssue T) [] := by
  refine T.m_House_issue.me T.cls_House sc_House_issue (fun vs H Q E h => ?_) (fun cdv A outer s H vs Q E hr h => ?_)
  · obtain ⟨_, _, _, _, _, _, _, _, _, rfl, _⟩ := h
    rfl
  · obtain ⟨h, di, dt, ai, ak, η, m, a, n, rfl, M, I, W, hn, q1, q2⟩ := h
    have hu := hu_of hr
    obtain ⟨dx, ob⟩ := M.ob
    refine ⟨_, (pss_cons (ps_expr (q_meth (mt_House_need_meter T) hr (by decide) (pv 0) (passes_call (takes_of rfl rfl rfl rfl) (fun _ _ _ _ h => h)) (pa_cons (pv 1) pa_nil)))
      (pss_cons (ps_expr (q_call (c_need_amount T) hr (by decide) rfl (passes_call (takes_of rfl rfl rfl rfl) (fun _ _ _ _ h => h)) (pa_cons (pv 2) pa_nil)))
      (pss_cons (ps_if (pt_cmpR op_lt (fldK K (pv 0) rfl) (pv 2) (by first | exact nomark _ | rfl)) (pss_one (q_raise rfl (takes_of rfl rfl rfl rfl) T.x_Short rfl)) pss_nil)
      (pss_cons (psFld K (pv 0) (pe_op op_sub (fldK K (pv 0) rfl) (pv 2)) rfl)
      (pss_cons (ps_set (i := 3) sc_House_issue.nd rfl (Or.inl rfl) (q_call (c_code_of T) hr (by decide) rfl (passes_call (takes_of rfl rfl rfl rfl) (fun _ _ _ _ h => h)) (pa_cons (fldK K (pv 0) rfl) (pa_cons (pv 1) (pa_cons (pe_op op_add (pe_callB (cLen K) (by rfl) T.n_len (by decide +kernel) (pa_cons (pe_dget hu (fldK K (pv 0) rfl) (pv 1) (fun _ _ => rfl)) pa_nil)) pe_int) (pa_cons (pv 2) (pa_cons (q_const T.g_TOP rfl) pa_nil)))))))
      (pss_cons (ps_expr (bmK K PySem.F.plainAttrs_list PySem.F.slot_list_append PySem.F.type_list_append mt_append (pe_dget hu (fldK K (pv 0) rfl) (pv 1) (fun _ _ => rfl)) (pa_cons (pv 3) pa_nil)))
      (pss_one (ps_ret (pv 3))))))))), ?_⟩
    wtm_at "go"
    refine ⟨h, di, dt, ai, ak, η, m, rfl, M, fun hm => ?_, fun hm => q1 .meter (by simp [resH, hm])⟩
    wtm_at "go"
    refine ⟨a, rfl, fun ea => ?_, fun ea => q1 .amount (by simp [resH, hm, ea])⟩
    have ha := amt_iff.mp ea
    wtm_at "go"
    refine g_ite (fun e => ?_) (fun e => ?_)
    · wtm_at "go"
      exact q1 .short (by simp [resH, hm, ea]; simpa using e)
    · have hsh : ¬ η.money < a := by simpa using e
      have q3 := q2 (by simp [resH, hm, ea]; omega) hm
      wtm_at "go"
      rename_i H1 m1 e1
      have M1 := M.fld (η' := { η with money := η.money - a }) m1 e1 rfl rfl rfl
      have hdi1' : H1 di = some (.dK (kvO η.ms ai)) := M1.di
      obtain ⟨us, eu, du⟩ := M1.li m hm
      have lu := du.len
      have hli := W.li m hm
      have hmb := W.mb m hm
      have hkk := W.kk
      have lu2 : us.length = (η.iss m).length := lu
      wtm_at "go"
      rw [lu2]
      refine ⟨_, _, _, _, _, rfl, (by show Bd η.key; unfold Bd; omega), (by unfold Bd; omega), (by unfold Bd; omega), (by unfold Bd; omega), (by unfold Bd; omega), fun t H2 n2 m2 e2 => ?_⟩
      have M2 := M1.mx0 m2
      have e12 := m2.get0 e1
      have eu2 := m2.get0 eu
      have hdi2 := m2.get0 hdi1'
      wtm_at "go"
      rename_i H3 m3 e3
      have ht3 : H3 t = some (.tup (issC η m a).vs) := mx_tup m3 (noTup1 eu2) e2
      have hne : ai m ≠ h := (ne_of e12 eu2 fun z => nomatch z).symm
      refine q3 t H3 (m1.free n2 (fun hx => ?_) |> fun z => z) ((m1.mono (by simp)).trans (m2.of0.trans (m3.mono (by simp)))) ht3 ⟨⟨dx, m3 _ _ e12 (by simpa using hne.symm)⟩, m3 _ _ hdi2 (by simp; exact ne_of hdi2 eu2 fun z => nomatch z), ?_, ?_, ?_⟩
      · simp at hx
        rw [hx] at n2
        rw [e1] at n2
        cases n2
      · exact m3 _ _ M2.dt (by simp; exact ne_of M2.dt eu2 fun z => nomatch z)
      · exact M2.li.push eu2 (du.mx m2 noTup0) m3 e3 ⟨t, rfl, e2⟩ fun j hj z => I.i1 j hj m hm z
      · exact M2.lk.mx m3 (noTup1 eu2) fun j hj => by simp; exact fun z => I.i3 m hm j hj z.symm
def spHLast (T : Tx K mg) : Sp := fun vs H Q E => ∃ (h di dt : Addr) (ai ak : Int → Addr) (η : Hs) (m : Int), vs = [.ref h, .int m] ∧ HsAt T.C_House H h di dt ai ak η ∧ (¬ m ∈ η.ms → E (.ref T.E_NoMeter) none H) ∧ (m ∈ η.ms → ∀ v H', Mx [] H H' → Dp K H' v (lastD (η.iss m)) → Q v H')
theorem mt_House_last_code (T : Tx K mg) : Me P w K mg base 2 T.C_House "last_code" (spHLast T) [] := by
  refine T.m_House_last_code.me T.cls_House sc_House_last_code (fun vs H Q E h => ?_) (fun cdv A outer s H vs Q E hr h => ?_)
  · obtain ⟨_, _, _, _, _, _, _, rfl, _⟩ := h
    rfl
  · obtain ⟨h, di, dt, ai, ak, η, m, rfl, M, q1, q2⟩ := h
    have hu := hu_of hr
    obtain ⟨dx, ob⟩ := M.ob
    refine ⟨_, (pss_cons (ps_expr (q_meth (mt_House_need_meter T) hr (by decide) (pv 0) (passes_call (takes_of rfl rfl rfl rfl) (fun _ _ _ _ h => h)) (pa_cons (pv 1) pa_nil)))
      (pss_one (ps_ret (pe_ifExp (pt_cmpR (opNeD K hr.units) (pe_dget hu (fldK K (pv 0) rfl) (pv 1) (fun _ _ => rfl)) (pe_lst pa_nil) (by first | exact nomark _ | rfl)) (pe_ix (ixL K) (pe_dget hu (fldK K (pv 0) rfl) (pv 1) (fun _ _ => rfl)) (pe_un un_neg pe_int) (fun _ _ => rfl)) pe_non)))), ?_⟩
    wtm_at "go"
    refine ⟨h, di, dt, ai, ak, η, m, rfl, M, fun hm => ?_, fun hm => q1 hm⟩
    have q3 := q2 hm
    have hdi := M.di
    obtain ⟨us, eu, du⟩ := M.li m hm
    wtm_at "go"
    rename_i l H1 n1 m1 e1
    refine g_neD (.lst (SqL.of (m1.get0 eu)) (du.mx m1 noTup0).dp) (.lst (SqL.of e1) .nil) (shaped_cds _) (shaped_cds []) ?_
    rw [eqv_nil]
    wtm_at "go"
    refine g_ite (fun e => ?_) (fun e => ?_)
    · have hz : η.iss m ≠ [] := by simpa using e
      obtain ⟨t, z, ht, hzz, hv⟩ := du.last hz
      have el : lastD (η.iss m) = cdD z := by unfold lastD; rw [hzz]
      rw [el] at q3
      wtm_at "go"
      exact q3 _ _ m1 (.tup (.of (m1.get0 hv)) (.cons (.int _) (.cons (.int _) (.cons (.int _) (.cons (.int _) .nil)))))
    · have hz : η.iss m = [] := by simpa using e
      have el : lastD (η.iss m) = .none := by unfold lastD; rw [hz]; rfl
      rw [el] at q3
      wtm_at "go"
      exact q3 _ _ m1 .non
def spHTake (T : Tx K mg) : Sp := fun vs H Q E => ∃ (h di dt : Addr) (ai ak : Int → Addr) (η : Hs) (t : Addr) (z : Cd) (n : Nat), vs = [.ref h, .ref t] ∧ HsAt T.C_House H h di dt ai ak η ∧ Hin η.ms ai ak ∧ Hw n η ∧ n < 1000 ∧ H t = some (.tup z.vs) ∧ (∀ r, resH η (.tk z) = some r → E (.ref (r.at T)) none H) ∧
  (resH η (.tk z) = none → z.m ∈ η.ms → ∀ H', Mx [h, ak z.m] H H' → HsAt T.C_House H' h di dt ai ak (newH η (.tk z)) → Q (.int z.a) H')
theorem mt_House_take_back (T : Tx K mg) : Me P w K mg base 3 T.C_House "take_back" (spHTake T) [] := by
  refine T.m_House_take_back.me T.cls_House sc_House_take_back (fun vs H Q E h => ?_) (fun cdv A outer s H vs Q E hr h => ?_)
  · obtain ⟨_, _, _, _, _, _, _, _, _, rfl, _⟩ := h
    rfl
  · obtain ⟨h, di, dt, ai, ak, η, t, z, n, rfl, M, I, W, hn, ht, q1, q2⟩ := h
    have hu := hu_of hr
    obtain ⟨dx, ob⟩ := M.ob
    have hdt := M.dt
    have ht' : SqT K H t [.int z.m, .int z.c, .int z.a, .int z.s] := .of ht
    refine ⟨_, (pss_cons (ps_set (i := 2) sc_House_take_back.nd rfl (Or.inl rfl) (pe_ix (ixT K) (pv 1) pe_int (fun _ _ => rfl)))
      (pss_cons (ps_if (PW.pt (pw_or (pt_cmp (pc_dnotin hu (pv 2) (fldK K (pv 0) rfl)) rfl) (pw_or1 (pt_not (pt_val (q_call (c_is_good T) hr (by decide) rfl (passes_call (takes_of rfl rfl rfl rfl) (fun _ _ _ _ h => h)) (pa_cons (fldK K (pv 0) rfl) (pa_cons (pv 1) (pa_cons (pv 2) (pa_cons (pe_op op_add (pe_callB (cLen K) (by rfl) T.n_len (by decide +kernel) (pa_cons (pe_dget hu (fldK K (pv 0) rfl) (pv 2) (fun _ _ => rfl)) pa_nil)) pe_int) (pa_cons (q_const T.g_BACK rfl) pa_nil))))))))))) (pss_one (q_raise rfl (takes_of rfl rfl rfl rfl) T.x_BadCode rfl)) pss_nil)
      (pss_cons (ps_expr (bmK K PySem.F.plainAttrs_list PySem.F.slot_list_append PySem.F.type_list_append mt_append (pe_dget hu (fldK K (pv 0) rfl) (pv 2) (fun _ _ => rfl)) (pa_cons (pv 1) pa_nil)))
      (pss_cons (psFld K (pv 0) (pe_op op_add (fldK K (pv 0) rfl) (pe_ix (ixT K) (pv 1) pe_int (fun _ _ => rfl))) rfl)
      (pss_one (ps_ret (pe_ix (ixT K) (pv 1) pe_int (fun _ _ => rfl)))))))), ?_⟩
    wtm_at "go"
    rw [kvO_in]
    refine g_ite (fun e => ?_) (fun e => ?_)
    · refine g_yes rfl ?_
      wtm_at "go"
      exact q1 .code (by simp [resH]; intro hh; exact absurd hh (by simpa using e))
    · have hm : z.m ∈ η.ms := by simpa using e
      obtain ⟨us, eu, du⟩ := M.lk z.m hm
      have lu := du.len
      have hlk := W.lk z.m hm
      have hmb := W.mb z.m hm
      have hkk := W.kk
      wtm_at "go"
      rw [lu]
      refine ⟨_, t, z, _, _, _, rfl, ht, (by unfold Bd; omega), (by unfold Bd; omega), (by unfold Bd; omega), (by unfold Bd; omega), ?_⟩
      wtm_at "go"
      refine g_ite (fun e2 => ?_) (fun e2 => ?_)
      · wtm_at "go"
        exact q1 .code (by simp [resH, hm]; simpa using e2)
      · have q3 := q2 (by simp [resH, hm]; simpa using e2) hm
        wtm_at "go"
        rename_i H1 m1 e1
        have hne : ak z.m ≠ h := (ne_of ob eu fun z => nomatch z).symm
        have nt1 : NoTup H [ak z.m] := noTup1 eu
        have ob1 := m1 _ _ ob (by simpa using hne.symm)
        have ht1 : SqT K H1 t [.int z.m, .int z.c, .int z.a, .int z.s] := .of (mx_tup m1 nt1 ht)
        have M1 : HsAt T.C_House H1 h di dt ai ak { η with tkn := setM η.tkn z.m (η.tkn z.m ++ [z]) } := ⟨⟨dx, ob1⟩, m1 _ _ M.di (by simp; exact ne_of M.di eu fun z => nomatch z), m1 _ _ M.dt (by simp; exact ne_of M.dt eu fun z => nomatch z), M.li.mx m1 nt1 (fun j hj => by simp; exact fun q => I.i3 j hj z.m hm q), M.lk.push eu du m1 e1 ⟨t, rfl, ht⟩ fun j hj q => I.i2 j hj z.m hm q⟩
        have ob1' : H1 h = some (.ins T.C_House dx (hFlds { η with tkn := setM η.tkn z.m (η.tkn z.m ++ [z]) } di dt)) := ob1
        clear ob1
        wtm_at "go"
        rename_i H2 m2 e2
        have ht2 : SqT K H2 t [.int z.m, .int z.c, .int z.a, .int z.s] := .of (mx_tup m2 (noTupI ob1') (mx_tup m1 nt1 ht))
        wtm_at "go"
        exact q3 H2 ((m1.mono (by simp)).trans (m2.mono (by simp))) (M1.fld m2 e2 rfl rfl rfl)
end
end Fk
namespace Fk
open PySem PySem.Spec PyProof.Rows L2
local macro_rules | `(tactic| wtm_at "ln") => `(tactic| first
  | omega
  | (simp only [List.length_cons, List.length_nil, List.length_map, List.length_append, List.length_replicate, List.length_take, List.length_drop, List.length_set]; omega)
  | (with_unfolding_all exact (by decide)))
local macro_rules | `(tactic| wtm_at "ar") => `(tactic| first
  | ((with_reducible show CMulW _ _); (refine' mulS ?_ ?_ <;> omega))
  | ((with_reducible show CDivW _ _); (refine' divS ?_ ?_ <;> omega))
  | ((with_reducible show CPow _ _); exact ⟨by decide, by decide, by decide⟩)
  | (show (0 : Int) < _; omega)
  | (with_unfolding_all exact (by decide)))
local macro_rules | `(tactic| wtm_at "at") => `(tactic| first
  | assumption
  | (refine' cl_atE ?e80 ?h80; (case' e80 => first | exact rfl | assumption); (case' h80 => wtm_at "ln"))
  | exact rfl)
local macro_rules | `(tactic| wtm_at "fr") => `(tactic| first
  | assumption
  | ((with_reducible refine' Mx.free0 ?m99 ?h99); (case' h99 => assumption); (case' m99 => wtm_at "mo")))
local macro_rules | `(tactic| wtm_at "hp") => `(tactic| first
  | assumption
  | ((with_reducible refine' Mx.get0 ?m1 ?h1); (case' m1 => assumption); (case' h1 => wtm_at "hp"))
  | ((with_reducible refine' Mx.get ?m2 ?n2 ?h2); (case' m2 => assumption); (case' n2 => wtm_at "nin"); (case' h2 => wtm_at "hp")))
local macro_rules | `(tactic| wtm_at "sl") => `(tactic| first
  | assumption
  | ((with_reducible refine' Mx.sqL0 ?m96 ?h96); (case' h96 => assumption); (case' m96 => wtm_at "mo"))
  | (refine' SqL.of ?h3; (case' h3 => wtm_at "hp"))
  | ((with_reducible refine' Mx.sqL0 ?m4 ?h4); (case' m4 => assumption); (case' h4 => wtm_at "sl"))
  | ((with_reducible refine' Mx.sqL ?m5 ?n5 ?h5); (case' m5 => assumption); (case' n5 => wtm_at "nin"); (case' h5 => wtm_at "sl")))
local macro_rules | `(tactic| wtm_at "st") => `(tactic| first
  | assumption
  | ((with_reducible refine' Mx.sqT0 ?m97 ?h97); (case' h97 => assumption); (case' m97 => wtm_at "mo"))
  | (refine' SqT.of ?h6; (case' h6 => wtm_at "hp"))
  | ((with_reducible refine' Mx.sqT0 ?m7 ?h7); (case' m7 => assumption); (case' h7 => wtm_at "st"))
  | ((with_reducible refine' Mx.sqT ?m8 ?n8 ?h8); (case' m8 => assumption); (case' n8 => wtm_at "nin"); (case' h8 => wtm_at "st")))
local macro_rules | `(tactic| wtm_at "mx") => `(tactic| first
  | assumption
  | exact Mx.refl
  | ((with_reducible refine' Mx.of0 ?h9); (case' h9 => assumption))
  | ((with_reducible refine' Mx.trans ?h10 ?m10); (case' m10 => first | assumption | ((with_reducible refine' Mx.of0 ?q10); (case' q10 => assumption))); (case' h10 => wtm_at "mx")))
local macro_rules | `(tactic| wtm_at "mo") => `(tactic| first
  | wtm_at "mx"
  | ((with_reducible refine' Mx.own ?m90 ?f90 ?k90); (case' k90 => assumption); (case' f90 => wtm_at "fr"); (case' m90 => wtm_at "mo"))
  | ((with_reducible refine' Mx.trans ?h91 ?m91); (case' m91 => first | assumption | ((with_reducible refine' Mx.of0 ?q91); (case' q91 => assumption))); (case' h91 => wtm_at "mo")))
local macro_rules | `(tactic| wtm_at "ne") => `(tactic| first
  | assumption
  | exact Ne.symm (by assumption)
  | ((with_reducible refine' ne_of_none ?x94 ?y94); (case' y94 => assumption); (case' x94 => wtm_at "hp"))
  | ((with_reducible refine' Ne.symm (ne_of_none ?x95 ?y95)); (case' y95 => assumption); (case' x95 => wtm_at "hp")))
local macro_rules | `(tactic| wtm_at "nin") => `(tactic| first
  | assumption
  | exact List.not_mem_nil
  | ((with_reducible refine' List.not_mem_cons_of_ne_of_not_mem ?h98 ?t98); (case' h98 => wtm_at "ne"); (case' t98 => wtm_at "nin")))
local macro_rules | `(tactic| wtm_at "g1") => `(tactic| first
  | ((with_reducible refine' g_var ?h11 ?k11); (case' h11 => exact rfl))
  | with_reducible refine' g_c ?_
  | with_reducible refine' g_op ?_
  | with_reducible refine' g_I0 ?_
  | ((with_reducible refine' g_I ?c12 ?k12); (case' c12 => wtm_at "ar"))
  | with_reducible refine' g_cons ?_
  | with_reducible refine' g_nil ?_
  | with_reducible refine' g_seq ?_
  | with_reducible refine' g_asg ?_
  | with_reducible refine' g_name ?_
  | with_reducible refine' g_ret ?_
  | with_reducible refine' g_if ?_
  | with_reducible refine' g_test ?_
  | with_reducible refine' g_tB ?_
  | with_reducible refine' g_bl ?_
  | ((with_reducible refine' g_eq ?h13 ?k13); (case' h13 => exact rfl))
  | ((with_reducible refine' g_ne ?h14 ?k14); (case' h14 => exact rfl))
  | with_reducible refine' g_CB ?_
  | with_reducible refine' g_call ?_
  | with_reducible refine' g_drop ?_
  | with_reducible refine' g_next ?_
  | with_reducible refine' g_not ?_
  | with_reducible refine' g_and ?_
  | with_reducible refine' g_or ?_
  | with_reducible refine' g_un ?_
  | with_reducible refine' g_U ?_
  | with_reducible refine' g_tup ?_
  | with_reducible refine' g_lst ?_
  | ((with_reducible refine' g_kNew ?h15 ?k15); (case' h15 => wtm_at "ln"); (case' k15 => intro _ _ _ _ _))
  | ((with_reducible refine' g_ixL ?h16 ?a16 ?k16); (case' h16 => wtm_at "sl"); (case' a16 => wtm_at "at"))
  | ((with_reducible refine' g_ixT ?h17 ?a17 ?k17); (case' h17 => wtm_at "st"); (case' a17 => wtm_at "at"))
  | with_reducible refine' g_slice ?_
  | with_reducible refine' g_part ?_
  | with_reducible refine' g_kPart ?_
  | with_reducible refine' g_noPart ?_
  | ((with_reducible refine' g_slL ?h18 ?k18); (case' h18 => wtm_at "sl"); (case' k18 => intro _ _ _ _ _))
  | ((with_reducible refine' g_cat ?h119 ?h219 ?l19 ?k19); (case' h119 => wtm_at "hp"); (case' h219 => wtm_at "hp"); (case' l19 => wtm_at "ln"); (case' k19 => intro _ _ _ _ _))
  | ((with_reducible refine' g_rep ?h120 ?h220 ?h320 ?l20 ?k20); (case' h120 => wtm_at "hp"); (case' h220 => wtm_at "ln"); (case' h320 => wtm_at "ln"); (case' l20 => wtm_at "ln"); (case' k20 => intro _ _ _ _ _))
  | ((with_reducible refine' g_append ?h21 ?l21 ?k21); (case' h21 => wtm_at "hp"); (case' l21 => wtm_at "ln"); (case' k21 => intro _ _ _))
  | ((with_reducible refine' g_kBM ?h22 ?k22); (case' h22 => wtm_at "sl"))
  | ((with_reducible refine' g_kBM0 ?h23 ?k23); (case' h23 => wtm_at "sl"))
  | ((with_reducible refine' g_kL ?h24 ?k24); (case' h24 => wtm_at "sl"))
  | ((with_reducible refine' g_kR1 ?h125 ?h225 ?k25); (case' h125 => wtm_at "ln"); (case' h225 => wtm_at "ln"))
  | ((with_reducible refine' g_kR2 ?h126 ?h226 ?h326 ?h426 ?k26); (case' h126 => wtm_at "ln"); (case' h226 => wtm_at "ln"); (case' h326 => wtm_at "ln"); (case' h426 => wtm_at "ln"))
  | ((with_reducible refine' g_lenL ?h27 ?k27); (case' h27 => wtm_at "sl"))
  | ((with_reducible refine' g_lenT ?h28 ?k28); (case' h28 => wtm_at "st"))
  | ((with_reducible refine' g_listL ?h29 ?k29); (case' h29 => wtm_at "sl"); (case' k29 => intro _ _ _ _ _))
  | ((with_reducible refine' g_tupleL ?h30 ?k30); (case' h30 => wtm_at "sl"); (case' k30 => intro _ _ _ _ _))
  | with_reducible refine' g_max ?_
  | with_reducible refine' g_min ?_
  | with_reducible refine' g_intB ?_
  | with_reducible refine' g_fld ?_
  | with_reducible refine' g_put ?_
  | with_reducible refine' g_dget ?_
  | with_reducible refine' g_isN ?_
  | with_reducible refine' g_notN ?_
  | with_reducible refine' g_ifE ?_
  | with_reducible refine' g_andV ?_
  | with_reducible refine' g_orV ?_
  | with_reducible refine' g_notV ?_
  | with_reducible refine' g_kIf ?_
  | with_reducible refine' g_chain ?_
  | with_reducible refine' g_kCh ?_
  | with_reducible refine' g_sub ?_
  | ((with_reducible refine' g_setI ?h92 ?e92 ?j92 ?k92); (case' h92 => wtm_at "hp"); (case' e92 => first | exact rfl | assumption); (case' j92 => wtm_at "ln"); (case' k92 => intro _ _ _))
  | ((with_reducible refine' g_setL ?h89 ?i89 ?k89); (case' h89 => wtm_at "hp"); (case' i89 => exact ixE rfl (by wtm_at "ln")); (case' k89 => intro _ _ _))
  | ((with_reducible refine' g_gtup ?h93 ?e93 ?k93); (case' h93 => wtm_at "st"); (case' e93 => exact rfl))
  | with_reducible refine' g_gcons ?_
  | with_reducible refine' g_gnil ?_
  | with_reducible refine' g_par ?_
  | with_reducible refine' g_kPar ?_
  | with_reducible refine' g_meth ?_
  | with_reducible refine' g_bm ?_
  | with_reducible refine' g_bm0 ?_
  | with_reducible refine' g_raise ?_
  | with_reducible refine' g_for ?_
  | with_reducible refine' g_iR1 ?_
  | with_reducible refine' g_iR2 ?_
  | with_reducible refine' g_iL ?_
  | with_reducible refine' g_lc ?_
  | with_reducible refine' g_retN ?_
  | with_reducible refine' g_no (b := false) rfl ?_
  | with_reducible refine' g_yes (b := true) rfl ?_)
local macro_rules | `(tactic| wtm_at "go") => `(tactic| repeat (wtm_at "g1"))
local macro_rules | `(tactic| wtm_at "gs") => `(tactic| repeat ((fail_if_success (with_reducible refine' g_ifE ?_)); wtm_at "g1"))
local macro_rules | `(tactic| wtm_at "gi") => `(tactic| repeat ((fail_if_success (with_reducible refine' g_if ?_)); wtm_at "g1"))
local macro_rules | `(tactic| wtm_at "gr") => `(tactic| repeat ((fail_if_success (with_reducible refine' g_ret ?_)); wtm_at "g1"))
local macro_rules | `(tactic| wtm_at "gq") => `(tactic| repeat ((fail_if_success (with_reducible refine' g_asg ?_)); wtm_at "g1"))
/-! ### a dict of new lists, one for each meter -/
theorem paired_imp {α β : Type} {F G : α → β → Prop} (h : ∀ x y, F x y → G x y) : ∀ {xs : List α} {ys : List β}, Paired F xs ys → Paired G xs ys
  | _, _, .nil => .nil
  | _, _, .cons a r => .cons (h _ _ a) (paired_imp h r)
theorem g_yesH {σ : L2.St} {H : Hp} {QB : Bool → Hp → Prop} (k : QB true H) : tYes σ H QB := k
theorem kvO_congr {ms : List Int} {a b : Int → Addr} (h : ∀ m ∈ ms, a m = b m) : kvO ms a = kvO ms b := List.map_congr_left fun m hm => by rw [h m hm]
theorem g_lcPairs {K : PySem.W.Frag} {σ : L2.St} {H : Hp} {Q : VK} {a : Addr} {ms : List Int} {j : Nat} {vs : List Nat} (hw : ∀ x, wipe ((wipe σ vs).set j (some x)) vs = wipe σ vs) (hv : ∀ x, ((wipe σ vs).set j (some x))[j]? = some (some x)) (hx : SqL K H a (ms.map V.int)) (nd : ms.Nodup) (hn : ms.length ≤ 100)
    (hd : ∀ Dl H' ps (b : Int → Addr), H Dl = none → Mx [] H H' → H' Dl = some (.lst (ps.map V.ref)) → Paired (fun p kv => SqT K H' p [kV kv.1, kv.2]) ps (kvO ms b) → (∀ m ∈ ms, H' (b m) = some (.lst []) ∧ H (b m) = none) → (∀ m ∈ ms, ∀ m' ∈ ms, b m = b m' → m = m') → Q (.ref Dl) H') :
    kLc (gName j) tYes (tTup (tCons (tVar j) (tCons (tLst tNil) tNil))) vs σ Q (Itl K a) H := by
  intro Dl hDl
  refine lc_list (xs := ms.map V.int) (fun i H' => i ≤ ms.length ∧ Mx [] H H' ∧ ∃ (ps : List Addr) (b : Int → Addr), H' Dl = some (.lst (ps.map V.ref)) ∧ ps.length = i ∧ Paired (fun p kv => H' p = some (.tup [kV kv.1, kv.2])) ps (kvO (ms.take i) b) ∧ (∀ m ∈ ms.take i, H' (b m) = some (.lst []) ∧ H (b m) = none ∧ b m ≠ Dl) ∧ (∀ m ∈ ms.take i, ∀ m' ∈ ms.take i, b m = b m' → m = m'))
    ⟨Nat.zero_le _, .new hDl, [], fun _ => 0, upd_same, rfl, .nil, by simp, by simp⟩ (fun i H' _ hp => hp.2.1.sqL0 hx) (fun i x H' hxi hp => ?_) (fun H' hp => ?_)
  · obtain ⟨le, m, ps, b, e, lp, pr, ls, inj⟩ := hp
    rw [List.getElem?_map, Option.map_eq_some_iff] at hxi
    obtain ⟨mm, hmm, rfl⟩ := hxi
    have hlt := (List.getElem?_eq_some_iff.mp hmm).1
    have htake : ms.take (i + 1) = ms.take i ++ [mm] := by rw [List.take_add_one, hmm]; rfl
    have hnot : mm ∉ ms.take i := fun hin => by
      have nd2 : (ms.take (i + 1)).Nodup := nd.sublist (List.take_sublist _ _)
      rw [htake, List.nodup_append] at nd2
      exact nd2.2.2 mm hin mm (by simp) rfl
    refine ⟨hw _, ?_⟩
    refine g_yesH ?_
    rw [if_pos rfl]
    refine g_tup (g_cons (g_var (hv _) (g_cons (g_lst (g_nil (g_kNew (by simp) fun l H1 n1 m1 e1 => g_nil (g_kNew (by simp) fun t H2 n2 m2 e2 => ?_)))))))
    have c2 := m1.trans m2
    have eD := c2.get0 e
    have lD : l ≠ Dl := (ne_of_none e n1).symm
    have hl0 : H l = none := m.free0 n1
    refine ⟨ps.map V.ref, eD, lineL (by rw [List.length_map]; omega), hlt, upd_Mx hDl (m.trans c2), ps ++ [t], setM b mm l, by rw [upd_same, List.map_append]; rfl, by rw [List.length_append, lp]; rfl, ?_, fun k hk => ?_, fun k hk k' hk' hkk => ?_⟩
    · rw [htake]
      have e1' : kvO (ms.take i ++ [mm]) (setM b mm l) = kvO (ms.take i) b ++ [(Sum.inl mm, V.ref l)] := by
        have : kvO (ms.take i ++ [mm]) (setM b mm l) = kvO (ms.take i) (setM b mm l) ++ [(Sum.inl mm, V.ref (setM b mm l mm))] := by unfold kvO; rw [List.map_append]; rfl
        rw [this, setM_same, kvO_congr (b := b) fun k hk => setM_ne fun z => hnot (by rw [← z]; exact hk)]
      rw [e1']
      refine .snoc (paired_imp (fun p kv h => ?_) pr) ?_
      · rw [upd_ne (ne_of (c2.get0 h) eD fun z => nomatch z)]; exact c2.get0 h
      · rw [upd_ne (ne_of e2 eD fun z => nomatch z)]; exact e2
    · rw [htake] at hk
      by_cases hz : k = mm
      · subst hz
        rw [setM_same, upd_ne lD]
        exact ⟨m2.get0 e1, hl0, lD⟩
      · have hk' : k ∈ ms.take i := by
          rcases List.mem_append.mp hk with q | q
          · exact q
          · exact absurd (List.mem_singleton.mp q) hz
        obtain ⟨q1, q2, q3⟩ := ls k hk'
        rw [setM_ne hz, upd_ne q3]
        exact ⟨c2.get0 q1, q2, q3⟩
    · rw [htake] at hk hk'
      have old : ∀ k ∈ ms.take i, b k ≠ l := fun k hk z => by
        have := (ls k hk).1
        rw [z, n1] at this
        cases this
      have mem : ∀ {k}, k ∈ ms.take i ++ [mm] → k ≠ mm → k ∈ ms.take i := fun {k} h hz => by
        rcases List.mem_append.mp h with q | q
        · exact q
        · exact absurd (List.mem_singleton.mp q) hz
      by_cases h1 : k = mm <;> by_cases h2 : k' = mm
      · rw [h1, h2]
      · rw [h1, setM_same, setM_ne h2] at hkk
        exact absurd hkk.symm (old _ (mem hk' h2))
      · rw [h2, setM_same, setM_ne h1] at hkk
        exact absurd hkk (old _ (mem hk h1))
      · rw [setM_ne h1, setM_ne h2] at hkk
        exact inj _ (mem hk h1) _ (mem hk' h2) hkk
  · obtain ⟨_, m, ps, b, e, lp, pr, ls, inj⟩ := hp
    rw [List.length_map, List.take_length] at pr ls inj
    exact hd Dl H' ps b hDl m e (paired_imp (fun _ _ h => .of h) pr) (fun k hk => ⟨(ls k hk).1, (ls k hk).2.1⟩) inj
section
variable {P : Program} {w : World} {K : PySem.W.Frag} {mg : Str → Option Value} {base : Heap}
local macro_rules | `(tactic| wtm_at "g1") => `(tactic| first
  | ((with_reducible refine' g_hKey (by assumption) ?h501 ?k501); (case' h501 => wtm_at "hp"))
  | ((with_reducible refine' g_hMon (by assumption) ?h502 ?k502); (case' h502 => wtm_at "hp"))
  | ((with_reducible refine' g_hSpe (by assumption) ?h503 ?k503); (case' h503 => wtm_at "hp"))
  | ((with_reducible refine' g_hIss (by assumption) ?h504 ?k504); (case' h504 => wtm_at "hp"))
  | ((with_reducible refine' g_hTak (by assumption) ?h505 ?k505); (case' h505 => wtm_at "hp"))
  | ((with_reducible refine' g_hpMon (by assumption) ?h506 ?k506); (case' h506 => wtm_at "hp"); (case' k506 => intro _ _ _))
  | ((with_reducible refine' g_hpSpe (by assumption) ?h507 ?k507); (case' h507 => wtm_at "hp"); (case' k507 => intro _ _ _))
  | ((with_reducible refine' g_kMeth ?h508 ?l508 ?k508); (case' h508 => wtm_at "hp"); (case' l508 => exact rfl))
  | ((with_reducible refine' g_kDGetI ?h509 ?l509 ?k509); (case' h509 => wtm_at "hp"); (case' l509 => wtm_at "kv"))
  | (with_reducible refine' g_dni ?_)
  | ((with_reducible refine' g_kDNi ?h510 ?k510); (case' h510 => wtm_at "hp"))
  | (with_reducible refine' g_lenSet ?_))
local macro_rules | `(tactic| wtm_at "kv") => `(tactic| first
  | exact kvO_get (by assumption)
  | exact rfl)

theorem g_dictP {H : Hp} {Q : VK} {Dl : Addr} {ps : List Addr} {ms : List Int} {b : Int → Addr} (e : H Dl = some (.lst (ps.map V.ref))) (pr : Paired (fun p kv => SqT K H p [kV kv.1, kv.2]) ps (kvO ms b)) (nd : ms.Nodup) (k : ∀ p H', H p = none → Mx [] H H' → H' p = some (.dK (kvO ms b)) → Q (.ref p) H') : rDictP K [.ref Dl] H Q :=
  ⟨Dl, ps, kvO ms b, rfl, SqL.of e, pr, fun p hp => k p _ hp (.new hp) (by rw [upd_same, kvO_merge nd])⟩
theorem CdL.new {H : Hp} {ms : List Int} {b : Int → Addr} (h : ∀ m ∈ ms, H (b m) = some (.lst [])) : CdL H ms b (fun _ => []) := fun m hm => ⟨[], h m hm, trivial⟩
def newHs (k : Int) (ms : List Int) : Hs := ⟨k, 0, 0, ms, fun _ => [], fun _ => []⟩
def spHInit (T : Tx K mg) : Sp := fun vs H Q _ => ∃ (p dx a : Addr) (k : Int) (ms : List Int), vs = [.ref p, .int k, .ref a] ∧ H p = some (.ins T.C_House dx []) ∧ SqL K H a (ms.map V.int) ∧ (0 ≤ k ∧ k ≤ 999981) ∧ (1 ≤ ms.length ∧ ms.length ≤ 4) ∧ ms.Nodup ∧ (∀ m ∈ ms, 1 ≤ m ∧ m ≤ 9999) ∧
  ∀ di dt ai ak H', (∀ x ∈ di :: dt :: (ms.map ai ++ ms.map ak), H x = none) → Mx [p] H H' → HsAt T.C_House H' p di dt ai ak (newHs k ms) → Hin ms ai ak → Q .non H'
theorem mt_House___init__ (T : Tx K mg) : Me P w K mg base 2 T.C_House "__init__" (spHInit T) [] := by
  refine T.m_House___init__.me T.cls_House sc_House___init__ (fun vs H Q E h => ?_) (fun cdv A outer s H vs Q E hr h => ?_)
  · obtain ⟨_, _, _, _, _, rfl, _⟩ := h
    rfl
  · obtain ⟨p, dx, a, k, ms, rfl, hp, hS, hk, hl, nd, hm, q⟩ := h
    have hu := hu_of hr
    refine ⟨_, (pss_cons (ps_expr (q_call (c_need_key T) hr (by decide) rfl (passes_call (takes_of rfl rfl rfl rfl) (fun _ _ _ _ h => h)) (pa_cons (pv 1) pa_nil)))
      (pss_cons (ps_if (PW.pt (pw_or (pt_not (pt_chain op_le op_le pe_int (pe_callB (cLen K) (by rfl) T.n_len (by decide +kernel) (pa_cons (pv 2) pa_nil)) (q_const T.g_MOST_METERS rfl))) (pw_or1 (pt_cmpR op_ne (lenSetK K rfl T.n_len rfl T.n_set (pv 2)) (pe_callB (cLen K) (by rfl) T.n_len (by decide +kernel) (pa_cons (pv 2) pa_nil)) (by first | exact nomark _ | rfl))))) (pss_one (q_raise rfl (takes_of rfl rfl rfl rfl) T.x_BadNumber rfl)) pss_nil)
      (pss_cons (ps_for (passes_of rfl) rfl (piL K (pv 2)) (pg_name (i := 3) sc_House___init__.nd rfl (Or.inl rfl))
      (pss_one (ps_expr (q_call (c_need_number T) hr (by decide) rfl (passes_call (takes_of rfl rfl rfl rfl) (fun _ _ _ _ h => h)) (pa_cons (pv 3) pa_nil)))))
      (pss_cons (psFld K (pv 0) (pv 1) rfl)
      (pss_cons (psFld K (pv 0) pe_int rfl)
      (pss_cons (psFld K (pv 0) pe_int rfl)
      (pss_cons (psFld K (pv 0) (pe_callTy (cDictP K rfl) (by rfl) T.n_dict (by decide +kernel) (pa_cons (pe_lc (own := [("meter", 3)]) (g := gName 3) rfl sc_House___init__.nd (piL K (pv 2)) (blkOk_by (own := [("meter", 3)]) (N := N_House___init__) (sc := defScope s_House___init__) (by decide +kernel)) (fun _ _ _ _ _ => pg_name (i := 3) sc_House___init__.nd rfl (by first | exact Or.inl rfl | exact Or.inr rfl)) (fun _ _ _ _ _ => pts_nil) (fun _ _ _ _ _ => (pe_tup (pa_cons (pv 3) (pa_cons (pe_lst pa_nil) pa_nil))))) pa_nil)) rfl)
      (pss_one (psFld K (pv 0) (pe_callTy (cDictP K rfl) (by rfl) T.n_dict (by decide +kernel) (pa_cons (pe_lc (own := [("meter", 3)]) (g := gName 3) rfl sc_House___init__.nd (piL K (pv 2)) (blkOk_by (own := [("meter", 3)]) (N := N_House___init__) (sc := defScope s_House___init__) (by decide +kernel)) (fun _ _ _ _ _ => pg_name (i := 3) sc_House___init__.nd rfl (by first | exact Or.inl rfl | exact Or.inr rfl)) (fun _ _ _ _ _ => pts_nil) (fun _ _ _ _ _ => (pe_tup (pa_cons (pv 3) (pa_cons (pe_lst pa_nil) pa_nil))))) pa_nil)) rfl))))))))), ?_⟩
    wtm_at "go"
    refine ⟨k, rfl, fun _ => ?_, fun z => absurd hk z⟩
    wtm_at "gi"
    refine g_cutS (fun N => N [some (.ref p), some (.int k), some (.ref a), none] H) (fun N hN => ?_) ?_
    · wtm_at "go"
      rw [List.length_map]
      refine g_yes (by simp; omega) ?_
      wtm_at "go"
      refine g_no (by simp; omega) ?_
      wtm_at "go"
      refine ⟨a, ms, rfl, hS, nd, by omega, ?_⟩
      wtm_at "go"
      refine g_no (by simp) ?_
      wtm_at "go"
      exact hN
    · wtm_at "go"
      refine g_forL (xs := ms.map V.int) (fun i σ' H' => ∃ x, σ' = [some (.ref p), some (.int k), some (.ref a), x] ∧ H = H')
        ⟨none, rfl, rfl⟩ (fun i σ' H' _ hP => ?_) (fun i x σ' H' hx hP => ?_) (fun σ' H' hP => ?_)
      · obtain ⟨_, _, rfl⟩ := hP
        exact hS
      · obtain ⟨x0, rfl, rfl⟩ := hP
        rw [List.getElem?_map, Option.map_eq_some_iff] at hx
        obtain ⟨m, hmm, rfl⟩ := hx
        wtm_at "go"
        refine ⟨m, rfl, fun _ => ?_, fun z => absurd (hm m (List.mem_of_getElem? hmm)) z⟩
        wtm_at "go"
        exact ⟨_, rfl, rfl⟩
      · obtain ⟨x0, rfl, rfl⟩ := hP
        wtm_at "go"
        refine g_kPut hp T.cls_House T.na_House_key rfl (by decide) fun H1 m1 e1 => ?_
        wtm_at "go"
        refine g_kPut e1 T.cls_House T.na_House_money rfl (by show 1 < 1000; decide) fun H2 m2 e2 => ?_
        wtm_at "go"
        refine g_kPut e2 T.cls_House T.na_House_spent rfl (by show 2 < 1000; decide) fun H3 m3 e3 => ?_
        have c3 := (m1.trans m2).trans m3
        have nap : a ∉ [p] ∨ True := .inr trivial
        have hS3 : SqL K H3 a (ms.map V.int) := by
          rcases hS with (h | ⟨o, h⟩) | h
          · exact .inl (.inl (c3 _ _ h (by simp; exact (ne_of hp h fun z => nomatch z).symm)))
          · exact .inl (.inr ⟨o, c3 _ _ h (by simp; exact (ne_of hp h fun z => nomatch z).symm)⟩)
          · exact .inr h
        clear m1 e1 m2 e2 m3 nap
        wtm_at "go"
        refine g_lcPairs (by intro x; rfl) (by intro x; rfl) hS3 nd (by omega) fun Dl H4 ps ai hD m4 eD pr ls inj => ?_
        wtm_at "go"
        refine g_dictP eD pr nd fun di H5 n5 m5 e5 => ?_
        wtm_at "go"
        have c5 := m4.trans m5
        refine g_kPut (c5.get0 e3) T.cls_House T.na_House_issues rfl (by show 3 < 1000; decide) fun H6 m6 e6 => ?_
        have p5 : ∀ x, H5 x ≠ none → x ≠ p → H6 x = H5 x := fun x hx hxp => by
          cases e : H5 x with
          | none => exact absurd e hx
          | some o => exact m6 _ _ e (by simpa using hxp)
        have hS6 : SqL K H6 a (ms.map V.int) := by
          rcases c5.sqL0 hS3 with (h | ⟨o, h⟩) | h
          · exact .inl (.inl (m6 _ _ h (by simp; exact (ne_of (c5.get0 e3) h fun z => nomatch z).symm)))
          · exact .inl (.inr ⟨o, m6 _ _ h (by simp; exact (ne_of (c5.get0 e3) h fun z => nomatch z).symm)⟩)
          · exact .inr h
        have ed6 := m6 _ _ e5 (by simp; exact (ne_of (c5.get0 e3) e5 fun z => nomatch z).symm)
        have ls6 : ∀ m ∈ ms, H6 (ai m) = some (.lst []) := fun m hm => m6 _ _ (m5.get0 (ls m hm).1) (by simp; exact (ne_of (c5.get0 e3) (m5.get0 (ls m hm).1) fun z => nomatch z).symm)
        wtm_at "go"
        refine g_lcPairs (by intro x; rfl) (by intro x; rfl) hS6 nd (by omega) fun Dl2 H7 ps2 ak hD2 m7 eD2 pr2 lk inj2 => ?_
        wtm_at "go"
        refine g_dictP eD2 pr2 nd fun dt H8 n8 m8 e8 => ?_
        wtm_at "go"
        have c8 := m7.trans m8
        refine g_kPut (c8.get0 e6) T.cls_House T.na_House_taken rfl (by show 4 < 1000; decide) fun H9 m9 e9 => ?_
        have pp8 := c8.get0 e6
        have fr3 : ∀ x, H3 x = none → H x = none := fun x hx => c3.free hx (by simp; rintro rfl; rw [e3] at hx; cases hx)
        have fr6 : ∀ x, H6 x = none → H x = none := fun x hx => fr3 x (c5.free0 (m6.free hx (by simp; rintro rfl; rw [e6] at hx; cases hx)))
        wtm_at "go"
        refine q di dt ai ak H9 (fun x hx => ?_) (((c3.trans c5.of0).trans m6).trans (c8.of0.trans m9)) ⟨⟨dx, e9⟩, ?_, ?_, ?_, ?_⟩ ⟨inj, inj2, fun m hm m' hm' z => ?_⟩
        · simp only [List.mem_cons, List.mem_append, List.mem_map] at hx
          rcases hx with rfl | rfl | ⟨m, hm, rfl⟩ | ⟨m, hm, rfl⟩
          · exact fr3 _ (m4.free0 n5)
          · exact fr6 _ (m7.free0 n8)
          · exact fr3 _ (ls m hm).2
          · exact fr6 _ (lk m hm).2
        · exact m9 _ _ (c8.get0 ed6) (by simp; exact (ne_of pp8 (c8.get0 ed6) fun z => nomatch z).symm)
        · exact m9 _ _ e8 (by simp; exact (ne_of pp8 e8 fun z => nomatch z).symm)
        · exact CdL.new fun m hm => m9 _ _ (c8.get0 (ls6 m hm)) (by simp; exact (ne_of pp8 (c8.get0 (ls6 m hm)) fun z => nomatch z).symm)
        · exact CdL.new fun m hm => m9 _ _ (m8.get0 (lk m hm).1) (by simp; exact (ne_of pp8 (m8.get0 (lk m hm).1) fun z => nomatch z).symm)
        · have h1 := ls6 m hm
          rw [z, (lk m' hm').2] at h1
          cases h1
theorem mk_House (T : Tx K mg) : Ma P w K mg base 2 "House" T.C_House (spHInit T) [] := by
  obtain ⟨f, fd, ps, ds, _, m, F, b, d⟩ := (mt_House___init__ (P := P) (w := w) (base := base) T).ex
  exact ⟨f, fd, ps, ds, ⟨T.mk_House_, m.at_, m.fn, T.kc_House⟩, F, T.g_House, b, d⟩
end
end Fk
namespace Fk
open PySem PySem.Spec PyProof.Rows L2
local macro_rules | `(tactic| wtm_at "ln") => `(tactic| first
  | omega
  | (simp only [List.length_cons, List.length_nil, List.length_map, List.length_append, List.length_replicate, List.length_take, List.length_drop, List.length_set]; omega)
  | (with_unfolding_all exact (by decide)))
local macro_rules | `(tactic| wtm_at "ar") => `(tactic| first
  | ((with_reducible show CMulW _ _); (refine' mulS ?_ ?_ <;> omega))
  | ((with_reducible show CDivW _ _); (refine' divS ?_ ?_ <;> omega))
  | ((with_reducible show CPow _ _); exact ⟨by decide, by decide, by decide⟩)
  | (show (0 : Int) < _; omega)
  | (with_unfolding_all exact (by decide)))
local macro_rules | `(tactic| wtm_at "at") => `(tactic| first
  | assumption
  | (refine' cl_atE ?e80 ?h80; (case' e80 => first | exact rfl | assumption); (case' h80 => wtm_at "ln"))
  | exact rfl)
local macro_rules | `(tactic| wtm_at "fr") => `(tactic| first
  | assumption
  | ((with_reducible refine' Mx.free0 ?m99 ?h99); (case' h99 => assumption); (case' m99 => wtm_at "mo")))
local macro_rules | `(tactic| wtm_at "hp") => `(tactic| first
  | assumption
  | ((with_reducible refine' Mx.get0 ?m1 ?h1); (case' m1 => assumption); (case' h1 => wtm_at "hp"))
  | ((with_reducible refine' Mx.get ?m2 ?n2 ?h2); (case' m2 => assumption); (case' n2 => wtm_at "nin"); (case' h2 => wtm_at "hp")))
local macro_rules | `(tactic| wtm_at "sl") => `(tactic| first
  | assumption
  | ((with_reducible refine' Mx.sqL0 ?m96 ?h96); (case' h96 => assumption); (case' m96 => wtm_at "mo"))
  | (refine' SqL.of ?h3; (case' h3 => wtm_at "hp"))
  | ((with_reducible refine' Mx.sqL0 ?m4 ?h4); (case' m4 => assumption); (case' h4 => wtm_at "sl"))
  | ((with_reducible refine' Mx.sqL ?m5 ?n5 ?h5); (case' m5 => assumption); (case' n5 => wtm_at "nin"); (case' h5 => wtm_at "sl")))
local macro_rules | `(tactic| wtm_at "st") => `(tactic| first
  | assumption
  | ((with_reducible refine' Mx.sqT0 ?m97 ?h97); (case' h97 => assumption); (case' m97 => wtm_at "mo"))
  | (refine' SqT.of ?h6; (case' h6 => wtm_at "hp"))
  | ((with_reducible refine' Mx.sqT0 ?m7 ?h7); (case' m7 => assumption); (case' h7 => wtm_at "st"))
  | ((with_reducible refine' Mx.sqT ?m8 ?n8 ?h8); (case' m8 => assumption); (case' n8 => wtm_at "nin"); (case' h8 => wtm_at "st")))
local macro_rules | `(tactic| wtm_at "mx") => `(tactic| first
  | assumption
  | exact Mx.refl
  | ((with_reducible refine' Mx.of0 ?h9); (case' h9 => assumption))
  | ((with_reducible refine' Mx.trans ?h10 ?m10); (case' m10 => first | assumption | ((with_reducible refine' Mx.of0 ?q10); (case' q10 => assumption))); (case' h10 => wtm_at "mx")))
local macro_rules | `(tactic| wtm_at "mo") => `(tactic| first
  | wtm_at "mx"
  | ((with_reducible refine' Mx.own ?m90 ?f90 ?k90); (case' k90 => assumption); (case' f90 => wtm_at "fr"); (case' m90 => wtm_at "mo"))
  | ((with_reducible refine' Mx.trans ?h91 ?m91); (case' m91 => first | assumption | ((with_reducible refine' Mx.of0 ?q91); (case' q91 => assumption))); (case' h91 => wtm_at "mo")))
local macro_rules | `(tactic| wtm_at "ne") => `(tactic| first
  | assumption
  | exact Ne.symm (by assumption)
  | ((with_reducible refine' ne_of_none ?x94 ?y94); (case' y94 => assumption); (case' x94 => wtm_at "hp"))
  | ((with_reducible refine' Ne.symm (ne_of_none ?x95 ?y95)); (case' y95 => assumption); (case' x95 => wtm_at "hp")))
local macro_rules | `(tactic| wtm_at "nin") => `(tactic| first
  | assumption
  | exact List.not_mem_nil
  | ((with_reducible refine' List.not_mem_cons_of_ne_of_not_mem ?h98 ?t98); (case' h98 => wtm_at "ne"); (case' t98 => wtm_at "nin")))
local macro_rules | `(tactic| wtm_at "g1") => `(tactic| first
  | ((with_reducible refine' g_var ?h11 ?k11); (case' h11 => exact rfl))
  | with_reducible refine' g_c ?_
  | with_reducible refine' g_op ?_
  | with_reducible refine' g_I0 ?_
  | ((with_reducible refine' g_I ?c12 ?k12); (case' c12 => wtm_at "ar"))
  | with_reducible refine' g_cons ?_
  | with_reducible refine' g_nil ?_
  | with_reducible refine' g_seq ?_
  | with_reducible refine' g_asg ?_
  | with_reducible refine' g_name ?_
  | with_reducible refine' g_ret ?_
  | with_reducible refine' g_if ?_
  | with_reducible refine' g_test ?_
  | with_reducible refine' g_tB ?_
  | with_reducible refine' g_bl ?_
  | ((with_reducible refine' g_eq ?h13 ?k13); (case' h13 => exact rfl))
  | ((with_reducible refine' g_ne ?h14 ?k14); (case' h14 => exact rfl))
  | with_reducible refine' g_CB ?_
  | with_reducible refine' g_call ?_
  | with_reducible refine' g_drop ?_
  | with_reducible refine' g_next ?_
  | with_reducible refine' g_not ?_
  | with_reducible refine' g_and ?_
  | with_reducible refine' g_or ?_
  | with_reducible refine' g_un ?_
  | with_reducible refine' g_U ?_
  | with_reducible refine' g_tup ?_
  | with_reducible refine' g_lst ?_
  | ((with_reducible refine' g_kNew ?h15 ?k15); (case' h15 => wtm_at "ln"); (case' k15 => intro _ _ _ _ _))
  | ((with_reducible refine' g_ixL ?h16 ?a16 ?k16); (case' h16 => wtm_at "sl"); (case' a16 => wtm_at "at"))
  | ((with_reducible refine' g_ixT ?h17 ?a17 ?k17); (case' h17 => wtm_at "st"); (case' a17 => wtm_at "at"))
  | with_reducible refine' g_slice ?_
  | with_reducible refine' g_part ?_
  | with_reducible refine' g_kPart ?_
  | with_reducible refine' g_noPart ?_
  | ((with_reducible refine' g_slL ?h18 ?k18); (case' h18 => wtm_at "sl"); (case' k18 => intro _ _ _ _ _))
  | ((with_reducible refine' g_cat ?h119 ?h219 ?l19 ?k19); (case' h119 => wtm_at "hp"); (case' h219 => wtm_at "hp"); (case' l19 => wtm_at "ln"); (case' k19 => intro _ _ _ _ _))
  | ((with_reducible refine' g_rep ?h120 ?h220 ?h320 ?l20 ?k20); (case' h120 => wtm_at "hp"); (case' h220 => wtm_at "ln"); (case' h320 => wtm_at "ln"); (case' l20 => wtm_at "ln"); (case' k20 => intro _ _ _ _ _))
  | ((with_reducible refine' g_append ?h21 ?l21 ?k21); (case' h21 => wtm_at "hp"); (case' l21 => wtm_at "ln"); (case' k21 => intro _ _ _))
  | ((with_reducible refine' g_kBM ?h22 ?k22); (case' h22 => wtm_at "sl"))
  | ((with_reducible refine' g_kBM0 ?h23 ?k23); (case' h23 => wtm_at "sl"))
  | ((with_reducible refine' g_kL ?h24 ?k24); (case' h24 => wtm_at "sl"))
  | ((with_reducible refine' g_kR1 ?h125 ?h225 ?k25); (case' h125 => wtm_at "ln"); (case' h225 => wtm_at "ln"))
  | ((with_reducible refine' g_kR2 ?h126 ?h226 ?h326 ?h426 ?k26); (case' h126 => wtm_at "ln"); (case' h226 => wtm_at "ln"); (case' h326 => wtm_at "ln"); (case' h426 => wtm_at "ln"))
  | ((with_reducible refine' g_lenL ?h27 ?k27); (case' h27 => wtm_at "sl"))
  | ((with_reducible refine' g_lenT ?h28 ?k28); (case' h28 => wtm_at "st"))
  | ((with_reducible refine' g_listL ?h29 ?k29); (case' h29 => wtm_at "sl"); (case' k29 => intro _ _ _ _ _))
  | ((with_reducible refine' g_tupleL ?h30 ?k30); (case' h30 => wtm_at "sl"); (case' k30 => intro _ _ _ _ _))
  | with_reducible refine' g_max ?_
  | with_reducible refine' g_min ?_
  | with_reducible refine' g_intB ?_
  | with_reducible refine' g_fld ?_
  | with_reducible refine' g_put ?_
  | with_reducible refine' g_dget ?_
  | with_reducible refine' g_isN ?_
  | with_reducible refine' g_notN ?_
  | with_reducible refine' g_ifE ?_
  | with_reducible refine' g_andV ?_
  | with_reducible refine' g_orV ?_
  | with_reducible refine' g_notV ?_
  | with_reducible refine' g_kIf ?_
  | with_reducible refine' g_chain ?_
  | with_reducible refine' g_kCh ?_
  | with_reducible refine' g_sub ?_
  | ((with_reducible refine' g_setI ?h92 ?e92 ?j92 ?k92); (case' h92 => wtm_at "hp"); (case' e92 => first | exact rfl | assumption); (case' j92 => wtm_at "ln"); (case' k92 => intro _ _ _))
  | ((with_reducible refine' g_setL ?h89 ?i89 ?k89); (case' h89 => wtm_at "hp"); (case' i89 => exact ixE rfl (by wtm_at "ln")); (case' k89 => intro _ _ _))
  | ((with_reducible refine' g_gtup ?h93 ?e93 ?k93); (case' h93 => wtm_at "st"); (case' e93 => exact rfl))
  | with_reducible refine' g_gcons ?_
  | with_reducible refine' g_gnil ?_
  | with_reducible refine' g_par ?_
  | with_reducible refine' g_kPar ?_
  | with_reducible refine' g_meth ?_
  | with_reducible refine' g_bm ?_
  | with_reducible refine' g_bm0 ?_
  | with_reducible refine' g_raise ?_
  | with_reducible refine' g_for ?_
  | with_reducible refine' g_iR1 ?_
  | with_reducible refine' g_iR2 ?_
  | with_reducible refine' g_iL ?_
  | with_reducible refine' g_lc ?_
  | with_reducible refine' g_retN ?_
  | with_reducible refine' g_no (b := false) rfl ?_
  | with_reducible refine' g_yes (b := true) rfl ?_)
local macro_rules | `(tactic| wtm_at "go") => `(tactic| repeat (wtm_at "g1"))
local macro_rules | `(tactic| wtm_at "gs") => `(tactic| repeat ((fail_if_success (with_reducible refine' g_ifE ?_)); wtm_at "g1"))
local macro_rules | `(tactic| wtm_at "gi") => `(tactic| repeat ((fail_if_success (with_reducible refine' g_if ?_)); wtm_at "g1"))
local macro_rules | `(tactic| wtm_at "gr") => `(tactic| repeat ((fail_if_success (with_reducible refine' g_ret ?_)); wtm_at "g1"))
local macro_rules | `(tactic| wtm_at "gq") => `(tactic| repeat ((fail_if_success (with_reducible refine' g_asg ?_)); wtm_at "g1"))

theorem dk_inj {k1 k2 : List (Key × V)} (h : some (HO.dK k1) = some (HO.dK k2)) : k1 = k2 := by cases h; rfl
/-! ### sums of codes -/
def sA (zs : List Cd) : Int := (zs.map (·.a)).sum
theorem sA_nil : sA [] = 0 := rfl
theorem sA_app (xs ys : List Cd) : sA (xs ++ ys) = sA xs + sA ys := by unfold sA; rw [List.map_append, List.sum_append]
theorem sA_cons (z : Cd) (ys : List Cd) : sA (z :: ys) = z.a + sA ys := by unfold sA; rw [List.map_cons, List.sum_cons]
def outM (η : Hs) (m : Int) : Int := sA (η.iss m) - sA (η.tkn m)
def outS (η : Hs) (ms : List Int) : Int := (ms.map (outM η)).sum
theorem fm_cds (zs : List Cd) : (List.range zs.length).filterMap (fun i => (zs[i]?).map fun z => V.int z.a) = (zs.map (·.a)).map V.int := by
  rw [fm_map (fun z => V.int z.a) zs, List.map_map]
  rfl
theorem g_tYesO {σ : L2.St} {H : Hp} {QB : Bool → Hp → Prop} (k : QB true H) : tYes σ H QB := k
/-- the amounts of codes at a list -/
theorem g_lcCds {K : PySem.W.Frag} {σ : L2.St} {H : Hp} {Q : VK} {a : Addr} {us : List V} {zs : List Cd} {j : Nat} {te : TE} {vs : List Nat} (hw : ∀ x, wipe ((wipe σ vs).set j (some x)) vs = wipe σ vs) (hn : zs.length ≤ 50000) (hx : SqL K H a us) (hc : CdAll H us zs)
    (hs : ∀ (t : Addr) (z : Cd) (H' : Hp) (QN : VK), SqT K H' t [.int z.m, .int z.c, .int z.a, .int z.s] → QN (.int z.a) H' → te ((wipe σ vs).set j (some (.ref t))) H' QN)
    (hd : ∀ Dl H', H Dl = none → Mx [] H H' → H' Dl = some (.lst ((zs.map (·.a)).map V.int)) → Q (.ref Dl) H') : kLc (gName j) tYes te vs σ Q (Itl K a) H := by
  have hl := hc.len
  refine g_lcL (xs := us) (fun i => (zs[i]?).map fun z => V.int z.a) hw (by omega) hx (fun i x H' QN hx m hQ => ?_) (fun Dl H3 hD m3 eD => ?_)
  · obtain ⟨z, t, hz, rfl, ht⟩ := hc.get' hx
    refine g_tYesO ?_
    rw [if_pos rfl]
    refine hs t z H' _ (.of (m.get0 ht)) ?_
    exact hQ _ _ Mx.refl (by rw [hz]; rfl)
  · rw [hl, fm_cds] at eD
    exact hd Dl H3 hD m3 eD
section
variable {P : Program} {w : World} {K : PySem.W.Frag} {mg : Str → Option Value} {base : Heap}
local macro_rules | `(tactic| wtm_at "g1") => `(tactic| first
  | ((with_reducible refine' g_fOwn (by assumption) ?h201 ?k201); (case' h201 => wtm_at "hp"))
  | ((with_reducible refine' g_fKey (by assumption) ?h202 ?k202); (case' h202 => wtm_at "hp"))
  | ((with_reducible refine' g_fMem (by assumption) ?h203 ?k203); (case' h203 => wtm_at "hp"))
  | ((with_reducible refine' g_fPri (by assumption) ?h204 ?k204); (case' h204 => wtm_at "hp"))
  | ((with_reducible refine' g_fAwa (by assumption) ?h205 ?k205); (case' h205 => wtm_at "hp"))
  | ((with_reducible refine' g_pAwa (by assumption) ?h206 ?k206); (case' h206 => wtm_at "hp"); (case' k206 => intro _ _ _))
  | ((with_reducible refine' g_kMeth ?h207 ?l207 ?k207); (case' h207 => wtm_at "hp"); (case' l207 => exact rfl)))

local macro_rules | `(tactic| wtm_at "g1") => `(tactic| first
  | ((with_reducible refine' g_dNum ?h311 ?k311); (case' h311 => wtm_at "hp"))
  | ((with_reducible refine' g_dKey ?h312 ?k312); (case' h312 => wtm_at "hp"))
  | ((with_reducible refine' g_dCe ?h313 ?k313); (case' h313 => wtm_at "hp"))
  | ((with_reducible refine' g_dSt ?h314 ?k314); (case' h314 => wtm_at "hp"))
  | ((with_reducible refine' g_dUp ?h315 ?k315); (case' h315 => wtm_at "hp"))
  | ((with_reducible refine' g_kDGetS ?h301 ?l301 ?k301); (case' h301 => wtm_at "hp"); (case' l301 => exact rfl))
  | (with_reducible refine' g_dput ?_)
  | (with_reducible refine' g_iK ?_)
  | ((with_reducible refine' g_disp ?k305); (case' k305 => intro _ _ _ _ _))
  | (with_reducible refine' g_pcons ?_)
  | (with_reducible refine' g_pnil ?_)
  | ((with_reducible refine' g_kDisp ?h306 ?e306 ?f306 ?l306 ?k306); (case' h306 => wtm_at "hp"); (case' e306 => exact rfl); (case' f306 => exact rfl); (case' l306 => wtm_at "ln"); (case' k306 => intro _ _ _))
  | ((with_reducible refine' g_pUp ?h302 ?k302); (case' h302 => wtm_at "hp"); (case' k302 => intro _ _ _))
  | ((with_reducible refine' g_pSt ?h303 ?k303); (case' h303 => wtm_at "hp"); (case' k303 => intro _ _ _))
  | ((with_reducible refine' g_pCe ?h304 ?k304); (case' h304 => wtm_at "hp"); (case' k304 => intro _ _ _)))

local macro_rules | `(tactic| wtm_at "g1") => `(tactic| first
  | ((with_reducible refine' g_hKey (by assumption) ?h501 ?k501); (case' h501 => wtm_at "hp"))
  | ((with_reducible refine' g_hMon (by assumption) ?h502 ?k502); (case' h502 => wtm_at "hp"))
  | ((with_reducible refine' g_hSpe (by assumption) ?h503 ?k503); (case' h503 => wtm_at "hp"))
  | ((with_reducible refine' g_hIss (by assumption) ?h504 ?k504); (case' h504 => wtm_at "hp"))
  | ((with_reducible refine' g_hTak (by assumption) ?h505 ?k505); (case' h505 => wtm_at "hp"))
  | ((with_reducible refine' g_hpMon (by assumption) ?h506 ?k506); (case' h506 => wtm_at "hp"); (case' k506 => intro _ _ _))
  | ((with_reducible refine' g_hpSpe (by assumption) ?h507 ?k507); (case' h507 => wtm_at "hp"); (case' k507 => intro _ _ _))
  | ((with_reducible refine' g_kMeth ?h508 ?l508 ?k508); (case' h508 => wtm_at "hp"); (case' l508 => exact rfl))
  | ((with_reducible refine' g_kDGetI ?h509 ?l509 ?k509); (case' h509 => wtm_at "hp"); (case' l509 => wtm_at "kv"))
  | (with_reducible refine' g_dni ?_)
  | ((with_reducible refine' g_kDNi ?h510 ?k510); (case' h510 => wtm_at "hp"))
  | (with_reducible refine' g_lenSet ?_))
local macro_rules | `(tactic| wtm_at "kv") => `(tactic| first
  | exact kvO_get (by assumption)
  | exact rfl)

def spHOut (T : Tx K mg) : Sp := fun vs H Q _ => ∃ (h di dt : Addr) (ai ak : Int → Addr) (η : Hs) (n : Nat), vs = [.ref h] ∧ HsAt T.C_House H h di dt ai ak η ∧ Hw n η ∧ n < 1000 ∧ ∀ H', Mx [] H H' → Q (.int (outS η η.ms)) H'
theorem mt_House_out (T : Tx K mg) : Me P w K mg base 1 T.C_House "out" (spHOut T) [] := by
  refine T.m_House_out.me T.cls_House sc_House_out (fun vs H Q E h => ?_) (fun cdv A outer s H vs Q E hr h => ?_)
  · obtain ⟨_, _, _, _, _, _, _, rfl, _⟩ := h
    rfl
  · obtain ⟨h, di, dt, ai, ak, η, n, rfl, ⟨⟨dx, ob⟩, hdi, hdt, li, lk⟩, W, hn, q⟩ := h
    have hu := hu_of hr
    refine ⟨_, (pss_cons (ps_set (i := 1) sc_House_out.nd rfl (Or.inl rfl) pe_int)
      (pss_cons (ps_lock (ps_for (passes_of rfl) rfl (pi_keys (fldK K (pv 0) rfl)) (pg_name (i := 2) sc_House_out.nd rfl (Or.inl rfl))
      (pss_cons (ps_set (i := 1) sc_House_out.nd rfl (Or.inl rfl) (pe_op op_add (pv 1) (pe_callB (cSum K rfl) (by rfl) T.n_sum (by decide +kernel) (pa_cons (pe_lc (own := [("code", 3)]) (g := gName 3) rfl sc_House_out.nd (piL K (pe_dget hu (fldK K (pv 0) rfl) (pv 2) (fun _ _ => rfl))) (blkOk_by (own := [("code", 3)]) (N := N_House_out) (sc := defScope s_House_out) (by decide +kernel)) (fun _ _ _ _ _ => pg_name (i := 3) sc_House_out.nd rfl (by first | exact Or.inl rfl | exact Or.inr rfl)) (fun _ _ _ _ _ => pts_nil) (fun _ _ _ _ _ => (pe_ix (ixT K) (pv 3) pe_int (fun _ _ => rfl)))) pa_nil))))
      (pss_one (ps_set (i := 1) sc_House_out.nd rfl (Or.inl rfl) (pe_op op_sub (pv 1) (pe_callB (cSum K rfl) (by rfl) T.n_sum (by decide +kernel) (pa_cons (pe_lc (own := [("code", 3)]) (g := gName 3) rfl sc_House_out.nd (piL K (pe_dget hu (fldK K (pv 0) rfl) (pv 2) (fun _ _ => rfl))) (blkOk_by (own := [("code", 3)]) (N := N_House_out) (sc := defScope s_House_out) (by decide +kernel)) (fun _ _ _ _ _ => pg_name (i := 3) sc_House_out.nd rfl (by first | exact Or.inl rfl | exact Or.inr rfl)) (fun _ _ _ _ _ => pts_nil) (fun _ _ _ _ _ => (pe_ix (ixT K) (pv 3) pe_int (fun _ _ => rfl)))) pa_nil))))))))
      (pss_one (ps_ret (pv 1))))), ?_⟩
    wtm_at "go"
    refine g_lock (d := di) (u := .dK (kvO η.ms ai)) hdi trivial fun od H1 m1 e1 => ?_
    have ntd : NoTup H [di] := noTupD hdi
    have hne : h ≠ di := ne_of ob hdi fun z => nomatch z
    have ob1 := m1 _ _ ob (by simpa using hne)
    have li1 : CdL H1 η.ms ai η.iss := li.mx m1 ntd fun j hj => by obtain ⟨us, eu, _⟩ := li j hj; simp; exact (ne_of hdi eu fun z => nomatch z).symm
    have lk1 : CdL H1 η.ms ak η.tkn := lk.mx m1 ntd fun j hj => by obtain ⟨us, eu, _⟩ := lk j hj; simp; exact (ne_of hdi eu fun z => nomatch z).symm
    have hdt1 : H1 dt = some (.dK (kvO η.ms ak)) ∨ dt = di := by
      by_cases z : dt = di
      · exact .inr z
      · exact .inl (m1 _ _ hdt (by simpa using z))
    have hdt1 : Rd H1 dt (.dK (kvO η.ms ak)) := by
      rcases hdt1 with z | z
      · exact .inl z
      · subst z
        have q : kvO η.ms ai = kvO η.ms ak := dk_inj (hdi.symm.trans hdt)
        exact .inr ⟨od, by rw [← q]; exact e1⟩
    wtm_at "go"
    refine g_kKeys e1 ?_
    refine g_forK (fun i σ' H' => ∃ x, σ' = [some (.ref h), some (.int (outS η (η.ms.take i))), x, none] ∧ Mx [] H1 H')
      ⟨none, rfl, Mx.refl⟩ (fun i σ' H' hP => ?_) (fun i ky v σ' H' hk hP => ?_) (fun σ' H' hP => ?_)
    · obtain ⟨_, _, m⟩ := hP
      exact m.get0 e1
    · obtain ⟨x0, rfl, m⟩ := hP
      unfold kvO at hk
      rw [List.getElem?_map, Option.map_eq_some_iff] at hk
      obtain ⟨c, hc1, hc2⟩ := hk
      cases hc2
      have hm := List.mem_of_getElem? hc1
      obtain ⟨us, eu, du⟩ := li1 c hm
      obtain ⟨us2, eu2, du2⟩ := lk1 c hm
      have l1 := W.li c hm
      have l2 := W.lk c hm
      have ob' := m.get0 ob1
      dsimp only [kV]
      wtm_at "go"
      refine g_kDGetIr (kvs := kvO η.ms ai) (.inr ⟨od, m.get0 e1⟩) (kvO_get hm) ?_
      wtm_at "go"
      refine g_lcCds (by intro x; rfl) (by omega) (SqL.of (m.get0 eu)) (du.mx m noTup0) (fun t z H' QN ht hQ => ?_) (fun Dl H3 hD m3 eD => ?_)
      · wtm_at "go"
        exact hQ
      · wtm_at "go"
        refine g_sum (SqL.of eD) ?_
        wtm_at "go"
        have c3 := m.trans m3
        have ob3 := c3.get0 ob1
        wtm_at "go"
        refine g_kDGetIr (kvs := kvO η.ms ak) ?_ (kvO_get hm) ?_
        · rcases hdt1 with z | ⟨o, z⟩
          · exact .inl (c3.get0 z)
          · exact .inr ⟨o, c3.get0 z⟩
        wtm_at "go"
        refine g_lcCds (by intro x; rfl) (by omega) (SqL.of (c3.get0 eu2)) (du2.mx c3 noTup0) (fun t z H' QN ht hQ => ?_) (fun Dl2 H4 hD2 m4 eD2 => ?_)
        · wtm_at "go"
          exact hQ
        · wtm_at "go"
          refine g_sum (SqL.of eD2) ?_
          wtm_at "go"
          refine ⟨some (.int c), ?_, c3.trans m4⟩
          have : outS η (η.ms.take (i + 1)) = outS η (η.ms.take i) + sA (η.iss c) - sA (η.tkn c) := by
            unfold outS
            rw [List.take_add_one, hc1, List.map_append, List.sum_append]
            simp [outM]
            omega
          rw [this]
          rfl
    · obtain ⟨x0, rfl, m⟩ := hP
      rw [kvO_len, List.take_length]
      refine ⟨m.get0 e1, ?_⟩
      wtm_at "go"
      refine q _ fun a o ea _ => ?_
      by_cases z : a = di
      · subst z
        rw [hdi] at ea
        cases ea
        exact upd_same
      · rw [upd_ne z]
        exact m.get0 (m1 _ _ ea (by simpa using z))
end
end Fk
namespace Fk
open PySem PySem.Spec PyProof.Rows L2
local macro_rules | `(tactic| wtm_at "ln") => `(tactic| first
  | omega
  | (simp only [List.length_cons, List.length_nil, List.length_map, List.length_append, List.length_replicate, List.length_take, List.length_drop, List.length_set]; omega)
  | (with_unfolding_all exact (by decide)))
local macro_rules | `(tactic| wtm_at "ar") => `(tactic| first
  | ((with_reducible show CMulW _ _); (refine' mulS ?_ ?_ <;> omega))
  | ((with_reducible show CDivW _ _); (refine' divS ?_ ?_ <;> omega))
  | ((with_reducible show CPow _ _); exact ⟨by decide, by decide, by decide⟩)
  | (show (0 : Int) < _; omega)
  | (with_unfolding_all exact (by decide)))
local macro_rules | `(tactic| wtm_at "at") => `(tactic| first
  | assumption
  | (refine' cl_atE ?e80 ?h80; (case' e80 => first | exact rfl | assumption); (case' h80 => wtm_at "ln"))
  | exact rfl)
local macro_rules | `(tactic| wtm_at "fr") => `(tactic| first
  | assumption
  | ((with_reducible refine' Mx.free0 ?m99 ?h99); (case' h99 => assumption); (case' m99 => wtm_at "mo")))
local macro_rules | `(tactic| wtm_at "hp") => `(tactic| first
  | assumption
  | ((with_reducible refine' Mx.get0 ?m1 ?h1); (case' m1 => assumption); (case' h1 => wtm_at "hp"))
  | ((with_reducible refine' Mx.get ?m2 ?n2 ?h2); (case' m2 => assumption); (case' n2 => wtm_at "nin"); (case' h2 => wtm_at "hp")))
local macro_rules | `(tactic| wtm_at "sl") => `(tactic| first
  | assumption
  | ((with_reducible refine' Mx.sqL0 ?m96 ?h96); (case' h96 => assumption); (case' m96 => wtm_at "mo"))
  | (refine' SqL.of ?h3; (case' h3 => wtm_at "hp"))
  | ((with_reducible refine' Mx.sqL0 ?m4 ?h4); (case' m4 => assumption); (case' h4 => wtm_at "sl"))
  | ((with_reducible refine' Mx.sqL ?m5 ?n5 ?h5); (case' m5 => assumption); (case' n5 => wtm_at "nin"); (case' h5 => wtm_at "sl")))
local macro_rules | `(tactic| wtm_at "st") => `(tactic| first
  | assumption
  | ((with_reducible refine' Mx.sqT0 ?m97 ?h97); (case' h97 => assumption); (case' m97 => wtm_at "mo"))
  | (refine' SqT.of ?h6; (case' h6 => wtm_at "hp"))
  | ((with_reducible refine' Mx.sqT0 ?m7 ?h7); (case' m7 => assumption); (case' h7 => wtm_at "st"))
  | ((with_reducible refine' Mx.sqT ?m8 ?n8 ?h8); (case' m8 => assumption); (case' n8 => wtm_at "nin"); (case' h8 => wtm_at "st")))
local macro_rules | `(tactic| wtm_at "mx") => `(tactic| first
  | assumption
  | exact Mx.refl
  | ((with_reducible refine' Mx.of0 ?h9); (case' h9 => assumption))
  | ((with_reducible refine' Mx.trans ?h10 ?m10); (case' m10 => first | assumption | ((with_reducible refine' Mx.of0 ?q10); (case' q10 => assumption))); (case' h10 => wtm_at "mx")))
local macro_rules | `(tactic| wtm_at "mo") => `(tactic| first
  | wtm_at "mx"
  | ((with_reducible refine' Mx.own ?m90 ?f90 ?k90); (case' k90 => assumption); (case' f90 => wtm_at "fr"); (case' m90 => wtm_at "mo"))
  | ((with_reducible refine' Mx.trans ?h91 ?m91); (case' m91 => first | assumption | ((with_reducible refine' Mx.of0 ?q91); (case' q91 => assumption))); (case' h91 => wtm_at "mo")))
local macro_rules | `(tactic| wtm_at "ne") => `(tactic| first
  | assumption
  | exact Ne.symm (by assumption)
  | ((with_reducible refine' ne_of_none ?x94 ?y94); (case' y94 => assumption); (case' x94 => wtm_at "hp"))
  | ((with_reducible refine' Ne.symm (ne_of_none ?x95 ?y95)); (case' y95 => assumption); (case' x95 => wtm_at "hp")))
local macro_rules | `(tactic| wtm_at "nin") => `(tactic| first
  | assumption
  | exact List.not_mem_nil
  | ((with_reducible refine' List.not_mem_cons_of_ne_of_not_mem ?h98 ?t98); (case' h98 => wtm_at "ne"); (case' t98 => wtm_at "nin")))
local macro_rules | `(tactic| wtm_at "g1") => `(tactic| first
  | ((with_reducible refine' g_var ?h11 ?k11); (case' h11 => exact rfl))
  | with_reducible refine' g_c ?_
  | with_reducible refine' g_op ?_
  | with_reducible refine' g_I0 ?_
  | ((with_reducible refine' g_I ?c12 ?k12); (case' c12 => wtm_at "ar"))
  | with_reducible refine' g_cons ?_
  | with_reducible refine' g_nil ?_
  | with_reducible refine' g_seq ?_
  | with_reducible refine' g_asg ?_
  | with_reducible refine' g_name ?_
  | with_reducible refine' g_ret ?_
  | with_reducible refine' g_if ?_
  | with_reducible refine' g_test ?_
  | with_reducible refine' g_tB ?_
  | with_reducible refine' g_bl ?_
  | ((with_reducible refine' g_eq ?h13 ?k13); (case' h13 => exact rfl))
  | ((with_reducible refine' g_ne ?h14 ?k14); (case' h14 => exact rfl))
  | with_reducible refine' g_CB ?_
  | with_reducible refine' g_call ?_
  | with_reducible refine' g_drop ?_
  | with_reducible refine' g_next ?_
  | with_reducible refine' g_not ?_
  | with_reducible refine' g_and ?_
  | with_reducible refine' g_or ?_
  | with_reducible refine' g_un ?_
  | with_reducible refine' g_U ?_
  | with_reducible refine' g_tup ?_
  | with_reducible refine' g_lst ?_
  | ((with_reducible refine' g_kNew ?h15 ?k15); (case' h15 => wtm_at "ln"); (case' k15 => intro _ _ _ _ _))
  | ((with_reducible refine' g_ixL ?h16 ?a16 ?k16); (case' h16 => wtm_at "sl"); (case' a16 => wtm_at "at"))
  | ((with_reducible refine' g_ixT ?h17 ?a17 ?k17); (case' h17 => wtm_at "st"); (case' a17 => wtm_at "at"))
  | with_reducible refine' g_slice ?_
  | with_reducible refine' g_part ?_
  | with_reducible refine' g_kPart ?_
  | with_reducible refine' g_noPart ?_
  | ((with_reducible refine' g_slL ?h18 ?k18); (case' h18 => wtm_at "sl"); (case' k18 => intro _ _ _ _ _))
  | ((with_reducible refine' g_cat ?h119 ?h219 ?l19 ?k19); (case' h119 => wtm_at "hp"); (case' h219 => wtm_at "hp"); (case' l19 => wtm_at "ln"); (case' k19 => intro _ _ _ _ _))
  | ((with_reducible refine' g_rep ?h120 ?h220 ?h320 ?l20 ?k20); (case' h120 => wtm_at "hp"); (case' h220 => wtm_at "ln"); (case' h320 => wtm_at "ln"); (case' l20 => wtm_at "ln"); (case' k20 => intro _ _ _ _ _))
  | ((with_reducible refine' g_append ?h21 ?l21 ?k21); (case' h21 => wtm_at "hp"); (case' l21 => wtm_at "ln"); (case' k21 => intro _ _ _))
  | ((with_reducible refine' g_kBM ?h22 ?k22); (case' h22 => wtm_at "sl"))
  | ((with_reducible refine' g_kBM0 ?h23 ?k23); (case' h23 => wtm_at "sl"))
  | ((with_reducible refine' g_kL ?h24 ?k24); (case' h24 => wtm_at "sl"))
  | ((with_reducible refine' g_kR1 ?h125 ?h225 ?k25); (case' h125 => wtm_at "ln"); (case' h225 => wtm_at "ln"))
  | ((with_reducible refine' g_kR2 ?h126 ?h226 ?h326 ?h426 ?k26); (case' h126 => wtm_at "ln"); (case' h226 => wtm_at "ln"); (case' h326 => wtm_at "ln"); (case' h426 => wtm_at "ln"))
  | ((with_reducible refine' g_lenL ?h27 ?k27); (case' h27 => wtm_at "sl"))
  | ((with_reducible refine' g_lenT ?h28 ?k28); (case' h28 => wtm_at "st"))
  | ((with_reducible refine' g_listL ?h29 ?k29); (case' h29 => wtm_at "sl"); (case' k29 => intro _ _ _ _ _))
  | ((with_reducible refine' g_tupleL ?h30 ?k30); (case' h30 => wtm_at "sl"); (case' k30 => intro _ _ _ _ _))
  | with_reducible refine' g_max ?_
  | with_reducible refine' g_min ?_
  | with_reducible refine' g_intB ?_
  | with_reducible refine' g_fld ?_
  | with_reducible refine' g_put ?_
  | with_reducible refine' g_dget ?_
  | with_reducible refine' g_isN ?_
  | with_reducible refine' g_notN ?_
  | with_reducible refine' g_ifE ?_
  | with_reducible refine' g_andV ?_
  | with_reducible refine' g_orV ?_
  | with_reducible refine' g_notV ?_
  | with_reducible refine' g_kIf ?_
  | with_reducible refine' g_chain ?_
  | with_reducible refine' g_kCh ?_
  | with_reducible refine' g_sub ?_
  | ((with_reducible refine' g_setI ?h92 ?e92 ?j92 ?k92); (case' h92 => wtm_at "hp"); (case' e92 => first | exact rfl | assumption); (case' j92 => wtm_at "ln"); (case' k92 => intro _ _ _))
  | ((with_reducible refine' g_setL ?h89 ?i89 ?k89); (case' h89 => wtm_at "hp"); (case' i89 => exact ixE rfl (by wtm_at "ln")); (case' k89 => intro _ _ _))
  | ((with_reducible refine' g_gtup ?h93 ?e93 ?k93); (case' h93 => wtm_at "st"); (case' e93 => exact rfl))
  | with_reducible refine' g_gcons ?_
  | with_reducible refine' g_gnil ?_
  | with_reducible refine' g_par ?_
  | with_reducible refine' g_kPar ?_
  | with_reducible refine' g_meth ?_
  | with_reducible refine' g_bm ?_
  | with_reducible refine' g_bm0 ?_
  | with_reducible refine' g_raise ?_
  | with_reducible refine' g_for ?_
  | with_reducible refine' g_iR1 ?_
  | with_reducible refine' g_iR2 ?_
  | with_reducible refine' g_iL ?_
  | with_reducible refine' g_lc ?_
  | with_reducible refine' g_retN ?_
  | with_reducible refine' g_no (b := false) rfl ?_
  | with_reducible refine' g_yes (b := true) rfl ?_)
local macro_rules | `(tactic| wtm_at "go") => `(tactic| repeat (wtm_at "g1"))
local macro_rules | `(tactic| wtm_at "gs") => `(tactic| repeat ((fail_if_success (with_reducible refine' g_ifE ?_)); wtm_at "g1"))
local macro_rules | `(tactic| wtm_at "gi") => `(tactic| repeat ((fail_if_success (with_reducible refine' g_if ?_)); wtm_at "g1"))
local macro_rules | `(tactic| wtm_at "gr") => `(tactic| repeat ((fail_if_success (with_reducible refine' g_ret ?_)); wtm_at "g1"))
local macro_rules | `(tactic| wtm_at "gq") => `(tactic| repeat ((fail_if_success (with_reducible refine' g_asg ?_)); wtm_at "g1"))

/-! ### accounts -/
def sumsD (μ : Mt) : PyData := .tuple [.int (bk μ 2), .int (bk μ 3), .int (bk μ 4)]
/-- meters at addresses -/
def MsAt (K : PySem.W.Frag) (C : Addr) (H : Hp) (N : Nat) (p pm pp : Nat → Addr) (μ : Nat → Mt) : Prop := ∀ j, j < N → MetAt K C H (p j) (pm j) (pp j) (μ j)
def refsN (N : Nat) (p : Nat → Addr) : List V := (List.range N).map fun j => V.ref (p j)
def sumN (N : Nat) (f : Nat → Int) : Int := ((List.range N).map f).sum
theorem refsN_len {N : Nat} {p : Nat → Addr} : (refsN N p).length = N := by unfold refsN; rw [List.length_map, List.length_range]
theorem refsN_get {N : Nat} {p : Nat → Addr} {i : Nat} {x : V} (h : (refsN N p)[i]? = some x) : i < N ∧ x = .ref (p i) := by
  unfold refsN at h
  rw [List.getElem?_map, Option.map_eq_some_iff] at h
  obtain ⟨j, hj, rfl⟩ := h
  obtain ⟨hl, e⟩ := List.getElem?_eq_some_iff.mp hj
  rw [List.length_range] at hl
  rw [List.getElem_range] at e
  subst e
  exact ⟨hl, rfl⟩
theorem refsN_at {N : Nat} {p : Nat → Addr} {i : Nat} (h : i < N) : (refsN N p)[i]? = some (.ref (p i)) := by
  unfold refsN
  rw [List.getElem?_map, List.getElem?_range h]
  rfl
theorem ints_range (N : Nat) (f : Nat → Int) : (List.range N).map (fun i => V.int (f i)) = ((List.range N).map f).map V.int := by rw [List.map_map]; rfl
theorem fm_some (N : Nat) (f : Nat → Int) : (List.range N).filterMap (fun i => some (V.int (f i))) = ((List.range N).map f).map V.int := by
  rw [← ints_range]
  show (List.range N).filterMap (some ∘ fun i => V.int (f i)) = _
  rw [List.filterMap_eq_map]
/-- one number of each row -/
theorem g_lcRow {K : PySem.W.Frag} {σ : L2.St} {H : Hp} {Q : VK} {a : Addr} {ws : List V} {N j : Nat} {te : TE} {vs : List Nat} (μ : Nat → Mt) (f : Nat → Int) (hw : ∀ x, wipe ((wipe σ vs).set j (some x)) vs = wipe σ vs) (hn : N ≤ 100) (hx : SqL K H a ws) (hc : DpAll K H ws ((List.range N).map fun i => sumsD (μ i)))
    (hs : ∀ (i : Nat) (t : Addr) (H' : Hp) (QN : VK), i < N → SqT K H' t [.int (bk (μ i) 2), .int (bk (μ i) 3), .int (bk (μ i) 4)] → QN (.int (f i)) H' → te ((wipe σ vs).set j (some (.ref t))) H' QN)
    (hd : ∀ Dl H', H Dl = none → Mx [] H H' → H' Dl = some (.lst (((List.range N).map f).map V.int)) → Q (.ref Dl) H') : kLc (gName j) tYes te vs σ Q (Itl K a) H := by
  have hl : ws.length = N := by rw [hc.len, List.length_map, List.length_range]
  refine g_lcL (xs := ws) (fun i => some (V.int (f i))) hw (by omega) hx (fun i x H' QN hx m hQ => ?_) (fun Dl H3 hD m3 eD => ?_)
  · obtain ⟨d, hd, hv⟩ := (hc.mx m).get' hx
    rw [List.getElem?_map, Option.map_eq_some_iff] at hd
    obtain ⟨i', hi', rfl⟩ := hd
    obtain ⟨hil, e⟩ := List.getElem?_eq_some_iff.mp hi'
    rw [List.length_range] at hil
    rw [List.getElem_range] at e
    subst e
    refine g_tYesO ?_
    rw [if_pos rfl]
    unfold sumsD at hv
    cases hv with
    | tup ht ha =>
      cases ha with
      | cons h1 r1 => cases h1; cases r1 with
        | cons h2 r2 => cases h2; cases r2 with
          | cons h3 r3 =>
            cases h3
            cases r3
            exact hs i _ H' _ hil ht (hQ _ _ Mx.refl rfl)
  · rw [hl, fm_some] at eD
    exact hd Dl H3 hD m3 eD
section
variable {P : Program} {w : World} {K : PySem.W.Frag} {mg : Str → Option Value} {base : Heap}
local macro_rules | `(tactic| wtm_at "g1") => `(tactic| first
  | ((with_reducible refine' g_fOwn (by assumption) ?h201 ?k201); (case' h201 => wtm_at "hp"))
  | ((with_reducible refine' g_fKey (by assumption) ?h202 ?k202); (case' h202 => wtm_at "hp"))
  | ((with_reducible refine' g_fMem (by assumption) ?h203 ?k203); (case' h203 => wtm_at "hp"))
  | ((with_reducible refine' g_fPri (by assumption) ?h204 ?k204); (case' h204 => wtm_at "hp"))
  | ((with_reducible refine' g_fAwa (by assumption) ?h205 ?k205); (case' h205 => wtm_at "hp"))
  | ((with_reducible refine' g_pAwa (by assumption) ?h206 ?k206); (case' h206 => wtm_at "hp"); (case' k206 => intro _ _ _))
  | ((with_reducible refine' g_kMeth ?h207 ?l207 ?k207); (case' h207 => wtm_at "hp"); (case' l207 => exact rfl)))

local macro_rules | `(tactic| wtm_at "g1") => `(tactic| first
  | ((with_reducible refine' g_dNum ?h311 ?k311); (case' h311 => wtm_at "hp"))
  | ((with_reducible refine' g_dKey ?h312 ?k312); (case' h312 => wtm_at "hp"))
  | ((with_reducible refine' g_dCe ?h313 ?k313); (case' h313 => wtm_at "hp"))
  | ((with_reducible refine' g_dSt ?h314 ?k314); (case' h314 => wtm_at "hp"))
  | ((with_reducible refine' g_dUp ?h315 ?k315); (case' h315 => wtm_at "hp"))
  | ((with_reducible refine' g_kDGetS ?h301 ?l301 ?k301); (case' h301 => wtm_at "hp"); (case' l301 => exact rfl))
  | (with_reducible refine' g_dput ?_)
  | (with_reducible refine' g_iK ?_)
  | ((with_reducible refine' g_disp ?k305); (case' k305 => intro _ _ _ _ _))
  | (with_reducible refine' g_pcons ?_)
  | (with_reducible refine' g_pnil ?_)
  | ((with_reducible refine' g_kDisp ?h306 ?e306 ?f306 ?l306 ?k306); (case' h306 => wtm_at "hp"); (case' e306 => exact rfl); (case' f306 => exact rfl); (case' l306 => wtm_at "ln"); (case' k306 => intro _ _ _))
  | ((with_reducible refine' g_pUp ?h302 ?k302); (case' h302 => wtm_at "hp"); (case' k302 => intro _ _ _))
  | ((with_reducible refine' g_pSt ?h303 ?k303); (case' h303 => wtm_at "hp"); (case' k303 => intro _ _ _))
  | ((with_reducible refine' g_pCe ?h304 ?k304); (case' h304 => wtm_at "hp"); (case' k304 => intro _ _ _)))

local macro_rules | `(tactic| wtm_at "g1") => `(tactic| first
  | ((with_reducible refine' g_hKey (by assumption) ?h501 ?k501); (case' h501 => wtm_at "hp"))
  | ((with_reducible refine' g_hMon (by assumption) ?h502 ?k502); (case' h502 => wtm_at "hp"))
  | ((with_reducible refine' g_hSpe (by assumption) ?h503 ?k503); (case' h503 => wtm_at "hp"))
  | ((with_reducible refine' g_hIss (by assumption) ?h504 ?k504); (case' h504 => wtm_at "hp"))
  | ((with_reducible refine' g_hTak (by assumption) ?h505 ?k505); (case' h505 => wtm_at "hp"))
  | ((with_reducible refine' g_hpMon (by assumption) ?h506 ?k506); (case' h506 => wtm_at "hp"); (case' k506 => intro _ _ _))
  | ((with_reducible refine' g_hpSpe (by assumption) ?h507 ?k507); (case' h507 => wtm_at "hp"); (case' k507 => intro _ _ _))
  | ((with_reducible refine' g_kMeth ?h508 ?l508 ?k508); (case' h508 => wtm_at "hp"); (case' l508 => exact rfl))
  | ((with_reducible refine' g_kDGetI ?h509 ?l509 ?k509); (case' h509 => wtm_at "hp"); (case' l509 => wtm_at "kv"))
  | (with_reducible refine' g_dni ?_)
  | ((with_reducible refine' g_kDNi ?h510 ?k510); (case' h510 => wtm_at "hp"))
  | (with_reducible refine' g_lenSet ?_))
local macro_rules | `(tactic| wtm_at "kv") => `(tactic| first
  | exact kvO_get (by assumption)
  | exact rfl)

def accV (η : Hs) (N : Nat) (μ : Nat → Mt) : List V := [.int η.spent, .int η.money, .int (outS η η.ms - sumN N fun i => bk (μ i) 4), .int (sumN N fun i => bk (μ i) 3), .int (sumN N fun i => bk (μ i) 2)]
def spAcc (T : Tx K mg) : Sp := fun vs H Q _ => ∃ (h di dt l : Addr) (ai ak : Int → Addr) (η : Hs) (n N : Nat) (p pm pp : Nat → Addr) (μ : Nat → Mt), vs = [.ref h, .ref l] ∧ HsAt T.C_House H h di dt ai ak η ∧ Hw n η ∧ n < 1000 ∧ SqL K H l (refsN N p) ∧ N ≤ 4 ∧ MsAt K T.C_Meter H N p pm pp μ ∧ (∀ j, j < N → Any (μ j).cells) ∧
  ∀ t H', Mx [] H H' → H' t = some (.tup (accV η N μ)) → Q (.ref t) H'
theorem c_accounts (T : Tx K mg) : Cl P w K mg base 4 "accounts" (spAcc T) [] := by
  refine T.f_accounts.cl sc_accounts (fun vs H Q E h => ?_) (fun cdv A outer s H vs Q E hr h => ?_)
  · obtain ⟨_, _, _, _, _, _, _, _, _, _, _, _, _, rfl, _⟩ := h
    rfl
  · obtain ⟨h, di, dt, l, ai, ak, η, n, N, p, pm, pp, μ, rfl, M, W, hn, hS, hN, hM, hA, q⟩ := h
    have hu := hu_of hr
    obtain ⟨dx, ob⟩ := M.ob
    refine ⟨_, (pss_cons (ps_setLc (i := 2) (own := [("meter", 3)]) (g := gName 3) rfl sc_accounts.nd rfl rfl (sw_true rfl rfl rfl (by decide +kernel)) (piL K (pv 1)) (blkOk_by (own := [("meter", 3)]) (N := N_accounts) (sc := defScope s_accounts) (by decide +kernel)) (fun _ _ _ _ _ => pg_name (i := 3) sc_accounts.nd rfl (by first | exact Or.inl rfl | exact Or.inr rfl)) (fun _ _ _ _ _ => pts_nil) (fun _ _ _ _ _ => (q_meth0 (mt_Meter_sums T) hr (by decide) (pv 3) passL)))
      (pss_cons (ps_set (i := 4) sc_accounts.nd rfl (Or.inl rfl) (pe_callB (cSum K rfl) (by rfl) T.n_sum (by decide +kernel) (pa_cons (pe_lc (own := [("row", 5)]) (g := gName 5) rfl sc_accounts.nd (piL K (pv 2)) (blkOk_by (own := [("row", 5)]) (N := N_accounts) (sc := defScope s_accounts) (by decide +kernel)) (fun _ _ _ _ _ => pg_name (i := 5) sc_accounts.nd rfl (by first | exact Or.inl rfl | exact Or.inr rfl)) (fun _ _ _ _ _ => pts_nil) (fun _ _ _ _ _ => (pe_ix (ixT K) (pv 5) pe_int (fun _ _ => rfl)))) pa_nil)))
      (pss_cons (ps_set (i := 6) sc_accounts.nd rfl (Or.inl rfl) (pe_callB (cSum K rfl) (by rfl) T.n_sum (by decide +kernel) (pa_cons (pe_lc (own := [("row", 5)]) (g := gName 5) rfl sc_accounts.nd (piL K (pv 2)) (blkOk_by (own := [("row", 5)]) (N := N_accounts) (sc := defScope s_accounts) (by decide +kernel)) (fun _ _ _ _ _ => pg_name (i := 5) sc_accounts.nd rfl (by first | exact Or.inl rfl | exact Or.inr rfl)) (fun _ _ _ _ _ => pts_nil) (fun _ _ _ _ _ => (pe_ix (ixT K) (pv 5) pe_int (fun _ _ => rfl)))) pa_nil)))
      (pss_one (ps_ret (pe_tup (pa_cons (fldK K (pv 0) rfl) (pa_cons (fldK K (pv 0) rfl) (pa_cons (pe_op op_sub (q_meth0 (mt_House_out T) hr (by decide) (pv 0) (passes_call (takes_of rfl rfl rfl rfl) (fun _ _ _ _ h => h))) (pv 4)) (pa_cons (pv 6) (pa_cons (pe_callB (cSum K rfl) (by rfl) T.n_sum (by decide +kernel) (pa_cons (pe_lc (own := [("row", 5)]) (g := gName 5) rfl sc_accounts.nd (piL K (pv 2)) (blkOk_by (own := [("row", 5)]) (N := N_accounts) (sc := defScope s_accounts) (by decide +kernel)) (fun _ _ _ _ _ => pg_name (i := 5) sc_accounts.nd rfl (by first | exact Or.inl rfl | exact Or.inr rfl)) (fun _ _ _ _ _ => pts_nil) (fun _ _ _ _ _ => (pe_ix (ixT K) (pv 5) pe_int (fun _ _ => rfl)))) pa_nil)) pa_nil))))))))))), ?_⟩
    wtm_at "go"
    refine g_lcLD (xs := refsN N p) (fun i => sumsD (μ i)) (fun _ => rfl) (by intro x; rfl) (by rw [refsN_len]; omega) hS (fun i x H' QN hx m hQ => ?_) (fun Dl H1 ws hD m1 e1 d1 => ?_)
    · obtain ⟨hi, rfl⟩ := refsN_get hx
      obtain ⟨dxm, obm⟩ := ((hM i hi).mx0 m).ob
      wtm_at "go"
      refine ⟨p i, pm i, pp i, μ i, rfl, (hM i hi).mx0 m, hA i hi, fun l2 H2 n2 m2 e2 => ?_⟩
      exact hQ _ _ m2 (.tup (.of e2) (.cons (.int _) (.cons (.int _) (.cons (.int _) .nil))))
    · rw [refsN_len] at d1
      wtm_at "go"
      refine g_lcRow μ (fun i => bk (μ i) 4) (by intro x; rfl) (by omega) (SqL.of e1) d1 (fun i t H' QN hi ht hQ => ?_) (fun D2 H2 hD2 m2 e2 => ?_)
      · wtm_at "go"
        exact hQ
      · wtm_at "go"
        refine g_sum (SqL.of e2) ?_
        wtm_at "go"
        refine g_lcRow μ (fun i => bk (μ i) 3) (by intro x; rfl) (by omega) (SqL.of (m2.get0 e1)) (d1.mx m2) (fun i t H' QN hi ht hQ => ?_) (fun D3 H3 hD3 m3 e3 => ?_)
        · wtm_at "go"
          exact hQ
        · wtm_at "go"
          refine g_sum (SqL.of e3) ?_
          have c3 := (m1.trans m2).trans m3
          have ob3 := c3.get0 ob
          wtm_at "go"
          refine ⟨h, di, dt, ai, ak, η, n, rfl, M.mx0 c3, W, hn, fun H4 m4 => ?_⟩
          have c24 := (m2.trans m3).trans m4
          have e14 := c24.get0 e1
          wtm_at "go"
          refine g_lcRow μ (fun i => bk (μ i) 2) (by intro x; rfl) (by omega) (SqL.of (c24.get0 e1)) (d1.mx c24) (fun i t H' QN hi ht hQ => ?_) (fun D5 H5 hD5 m5 e5 => ?_)
          · wtm_at "go"
            exact hQ
          · wtm_at "go"
            refine g_sum (SqL.of e5) ?_
            wtm_at "go"
            rename_i t H6 n6 m6 e6
            exact q t H6 (((c3.trans m4).trans m5).trans m6) e6
end
end Fk
namespace Fk
open PySem PySem.Spec PyProof.Rows L2
local macro_rules | `(tactic| wtm_at "ln") => `(tactic| first
  | omega
  | (simp only [List.length_cons, List.length_nil, List.length_map, List.length_append, List.length_replicate, List.length_take, List.length_drop, List.length_set]; omega)
  | (with_unfolding_all exact (by decide)))
local macro_rules | `(tactic| wtm_at "ar") => `(tactic| first
  | ((with_reducible show CMulW _ _); (refine' mulS ?_ ?_ <;> omega))
  | ((with_reducible show CDivW _ _); (refine' divS ?_ ?_ <;> omega))
  | ((with_reducible show CPow _ _); exact ⟨by decide, by decide, by decide⟩)
  | (show (0 : Int) < _; omega)
  | (with_unfolding_all exact (by decide)))
local macro_rules | `(tactic| wtm_at "at") => `(tactic| first
  | assumption
  | (refine' cl_atE ?e80 ?h80; (case' e80 => first | exact rfl | assumption); (case' h80 => wtm_at "ln"))
  | exact rfl)
local macro_rules | `(tactic| wtm_at "fr") => `(tactic| first
  | assumption
  | ((with_reducible refine' Mx.free0 ?m99 ?h99); (case' h99 => assumption); (case' m99 => wtm_at "mo")))
local macro_rules | `(tactic| wtm_at "hp") => `(tactic| first
  | assumption
  | ((with_reducible refine' Mx.get0 ?m1 ?h1); (case' m1 => assumption); (case' h1 => wtm_at "hp"))
  | ((with_reducible refine' Mx.get ?m2 ?n2 ?h2); (case' m2 => assumption); (case' n2 => wtm_at "nin"); (case' h2 => wtm_at "hp")))
local macro_rules | `(tactic| wtm_at "sl") => `(tactic| first
  | assumption
  | ((with_reducible refine' Mx.sqL0 ?m96 ?h96); (case' h96 => assumption); (case' m96 => wtm_at "mo"))
  | (refine' SqL.of ?h3; (case' h3 => wtm_at "hp"))
  | ((with_reducible refine' Mx.sqL0 ?m4 ?h4); (case' m4 => assumption); (case' h4 => wtm_at "sl"))
  | ((with_reducible refine' Mx.sqL ?m5 ?n5 ?h5); (case' m5 => assumption); (case' n5 => wtm_at "nin"); (case' h5 => wtm_at "sl")))
local macro_rules | `(tactic| wtm_at "st") => `(tactic| first
  | assumption
  | ((with_reducible refine' Mx.sqT0 ?m97 ?h97); (case' h97 => assumption); (case' m97 => wtm_at "mo"))
  | (refine' SqT.of ?h6; (case' h6 => wtm_at "hp"))
  | ((with_reducible refine' Mx.sqT0 ?m7 ?h7); (case' m7 => assumption); (case' h7 => wtm_at "st"))
  | ((with_reducible refine' Mx.sqT ?m8 ?n8 ?h8); (case' m8 => assumption); (case' n8 => wtm_at "nin"); (case' h8 => wtm_at "st")))
local macro_rules | `(tactic| wtm_at "mx") => `(tactic| first
  | assumption
  | exact Mx.refl
  | ((with_reducible refine' Mx.of0 ?h9); (case' h9 => assumption))
  | ((with_reducible refine' Mx.trans ?h10 ?m10); (case' m10 => first | assumption | ((with_reducible refine' Mx.of0 ?q10); (case' q10 => assumption))); (case' h10 => wtm_at "mx")))
local macro_rules | `(tactic| wtm_at "mo") => `(tactic| first
  | wtm_at "mx"
  | ((with_reducible refine' Mx.own ?m90 ?f90 ?k90); (case' k90 => assumption); (case' f90 => wtm_at "fr"); (case' m90 => wtm_at "mo"))
  | ((with_reducible refine' Mx.trans ?h91 ?m91); (case' m91 => first | assumption | ((with_reducible refine' Mx.of0 ?q91); (case' q91 => assumption))); (case' h91 => wtm_at "mo")))
local macro_rules | `(tactic| wtm_at "ne") => `(tactic| first
  | assumption
  | exact Ne.symm (by assumption)
  | ((with_reducible refine' ne_of_none ?x94 ?y94); (case' y94 => assumption); (case' x94 => wtm_at "hp"))
  | ((with_reducible refine' Ne.symm (ne_of_none ?x95 ?y95)); (case' y95 => assumption); (case' x95 => wtm_at "hp")))
local macro_rules | `(tactic| wtm_at "nin") => `(tactic| first
  | assumption
  | exact List.not_mem_nil
  | ((with_reducible refine' List.not_mem_cons_of_ne_of_not_mem ?h98 ?t98); (case' h98 => wtm_at "ne"); (case' t98 => wtm_at "nin")))
local macro_rules | `(tactic| wtm_at "g1") => `(tactic| first
  | ((with_reducible refine' g_var ?h11 ?k11); (case' h11 => exact rfl))
  | with_reducible refine' g_c ?_
  | with_reducible refine' g_op ?_
  | with_reducible refine' g_I0 ?_
  | ((with_reducible refine' g_I ?c12 ?k12); (case' c12 => wtm_at "ar"))
  | with_reducible refine' g_cons ?_
  | with_reducible refine' g_nil ?_
  | with_reducible refine' g_seq ?_
  | with_reducible refine' g_asg ?_
  | with_reducible refine' g_name ?_
  | with_reducible refine' g_ret ?_
  | with_reducible refine' g_if ?_
  | with_reducible refine' g_test ?_
  | with_reducible refine' g_tB ?_
  | with_reducible refine' g_bl ?_
  | ((with_reducible refine' g_eq ?h13 ?k13); (case' h13 => exact rfl))
  | ((with_reducible refine' g_ne ?h14 ?k14); (case' h14 => exact rfl))
  | with_reducible refine' g_CB ?_
  | with_reducible refine' g_call ?_
  | with_reducible refine' g_drop ?_
  | with_reducible refine' g_next ?_
  | with_reducible refine' g_not ?_
  | with_reducible refine' g_and ?_
  | with_reducible refine' g_or ?_
  | with_reducible refine' g_un ?_
  | with_reducible refine' g_U ?_
  | with_reducible refine' g_tup ?_
  | with_reducible refine' g_lst ?_
  | ((with_reducible refine' g_kNew ?h15 ?k15); (case' h15 => wtm_at "ln"); (case' k15 => intro _ _ _ _ _))
  | ((with_reducible refine' g_ixL ?h16 ?a16 ?k16); (case' h16 => wtm_at "sl"); (case' a16 => wtm_at "at"))
  | ((with_reducible refine' g_ixT ?h17 ?a17 ?k17); (case' h17 => wtm_at "st"); (case' a17 => wtm_at "at"))
  | with_reducible refine' g_slice ?_
  | with_reducible refine' g_part ?_
  | with_reducible refine' g_kPart ?_
  | with_reducible refine' g_noPart ?_
  | ((with_reducible refine' g_slL ?h18 ?k18); (case' h18 => wtm_at "sl"); (case' k18 => intro _ _ _ _ _))
  | ((with_reducible refine' g_cat ?h119 ?h219 ?l19 ?k19); (case' h119 => wtm_at "hp"); (case' h219 => wtm_at "hp"); (case' l19 => wtm_at "ln"); (case' k19 => intro _ _ _ _ _))
  | ((with_reducible refine' g_rep ?h120 ?h220 ?h320 ?l20 ?k20); (case' h120 => wtm_at "hp"); (case' h220 => wtm_at "ln"); (case' h320 => wtm_at "ln"); (case' l20 => wtm_at "ln"); (case' k20 => intro _ _ _ _ _))
  | ((with_reducible refine' g_append ?h21 ?l21 ?k21); (case' h21 => wtm_at "hp"); (case' l21 => wtm_at "ln"); (case' k21 => intro _ _ _))
  | ((with_reducible refine' g_kBM ?h22 ?k22); (case' h22 => wtm_at "sl"))
  | ((with_reducible refine' g_kBM0 ?h23 ?k23); (case' h23 => wtm_at "sl"))
  | ((with_reducible refine' g_kL ?h24 ?k24); (case' h24 => wtm_at "sl"))
  | ((with_reducible refine' g_kR1 ?h125 ?h225 ?k25); (case' h125 => wtm_at "ln"); (case' h225 => wtm_at "ln"))
  | ((with_reducible refine' g_kR2 ?h126 ?h226 ?h326 ?h426 ?k26); (case' h126 => wtm_at "ln"); (case' h226 => wtm_at "ln"); (case' h326 => wtm_at "ln"); (case' h426 => wtm_at "ln"))
  | ((with_reducible refine' g_lenL ?h27 ?k27); (case' h27 => wtm_at "sl"))
  | ((with_reducible refine' g_lenT ?h28 ?k28); (case' h28 => wtm_at "st"))
  | ((with_reducible refine' g_listL ?h29 ?k29); (case' h29 => wtm_at "sl"); (case' k29 => intro _ _ _ _ _))
  | ((with_reducible refine' g_tupleL ?h30 ?k30); (case' h30 => wtm_at "sl"); (case' k30 => intro _ _ _ _ _))
  | with_reducible refine' g_max ?_
  | with_reducible refine' g_min ?_
  | with_reducible refine' g_intB ?_
  | with_reducible refine' g_fld ?_
  | with_reducible refine' g_put ?_
  | with_reducible refine' g_dget ?_
  | with_reducible refine' g_isN ?_
  | with_reducible refine' g_notN ?_
  | with_reducible refine' g_ifE ?_
  | with_reducible refine' g_andV ?_
  | with_reducible refine' g_orV ?_
  | with_reducible refine' g_notV ?_
  | with_reducible refine' g_kIf ?_
  | with_reducible refine' g_chain ?_
  | with_reducible refine' g_kCh ?_
  | with_reducible refine' g_sub ?_
  | ((with_reducible refine' g_setI ?h92 ?e92 ?j92 ?k92); (case' h92 => wtm_at "hp"); (case' e92 => first | exact rfl | assumption); (case' j92 => wtm_at "ln"); (case' k92 => intro _ _ _))
  | ((with_reducible refine' g_setL ?h89 ?i89 ?k89); (case' h89 => wtm_at "hp"); (case' i89 => exact ixE rfl (by wtm_at "ln")); (case' k89 => intro _ _ _))
  | ((with_reducible refine' g_gtup ?h93 ?e93 ?k93); (case' h93 => wtm_at "st"); (case' e93 => exact rfl))
  | with_reducible refine' g_gcons ?_
  | with_reducible refine' g_gnil ?_
  | with_reducible refine' g_par ?_
  | with_reducible refine' g_kPar ?_
  | with_reducible refine' g_meth ?_
  | with_reducible refine' g_bm ?_
  | with_reducible refine' g_bm0 ?_
  | with_reducible refine' g_raise ?_
  | with_reducible refine' g_for ?_
  | with_reducible refine' g_iR1 ?_
  | with_reducible refine' g_iR2 ?_
  | with_reducible refine' g_iL ?_
  | with_reducible refine' g_lc ?_
  | with_reducible refine' g_retN ?_
  | with_reducible refine' g_no (b := false) rfl ?_
  | with_reducible refine' g_yes (b := true) rfl ?_)
local macro_rules | `(tactic| wtm_at "go") => `(tactic| repeat (wtm_at "g1"))
local macro_rules | `(tactic| wtm_at "gs") => `(tactic| repeat ((fail_if_success (with_reducible refine' g_ifE ?_)); wtm_at "g1"))
local macro_rules | `(tactic| wtm_at "gi") => `(tactic| repeat ((fail_if_success (with_reducible refine' g_if ?_)); wtm_at "g1"))
local macro_rules | `(tactic| wtm_at "gr") => `(tactic| repeat ((fail_if_success (with_reducible refine' g_ret ?_)); wtm_at "g1"))
local macro_rules | `(tactic| wtm_at "gq") => `(tactic| repeat ((fail_if_success (with_reducible refine' g_asg ?_)); wtm_at "g1"))
/-! ### all is accounted for: plain -/
theorem print_bk (μ : Mt) (cut : Option Nat) (i : Nat) : bk (printM μ cut).2 i = bk μ i ∧ (printM μ cut).2.num = μ.num ∧ (printM μ cut).2.key = μ.key := by
  unfold printM
  cases owed μ with
  | none => exact ⟨rfl, rfl, rfl⟩
  | some s => simp only; split <;> exact ⟨rfl, rfl, rfl⟩
theorem due_up_bk {n : Nat} {μ : Mt} (W : Wf n μ) (cut : Option Nat) (i : Nat) : bk (dueM μ .up cut).2 i = bk μ i ∧ (dueM μ .up cut).2.num = μ.num ∧ (dueM μ .up cut).2.key = μ.key := by
  by_cases hu : μ.up = true
  · have e : dueM μ .up cut = (.str "Up", μ) := if_pos hu
    rw [e]
    exact ⟨rfl, rfl, rfl⟩
  · rw [(does_due W .up cut).2 (by simp [doesR, hu])]
    show bk (upM μ cut).2 i = _ ∧ (upM μ cut).2.num = _ ∧ (upM μ cut).2.key = _
    have := print_bk μ cut i
    unfold upM
    split
    · exact this
    · exact this
theorem due_nk {μ : Mt} (d : Dd) (c : Option Nat) (hd : d ≠ .up) : (dueM μ d c).2.num = μ.num ∧ (dueM μ d c).2.key = μ.key := by
  cases hr : refR μ d with
  | some r => rw [dueM_ref hd hr]; exact ⟨rfl, rfl⟩
  | none =>
    rw [dueM_run hd hr]
    show (runM μ (chsOf μ d) c).2.num = _ ∧ (runM μ (chsOf μ d) c).2.key = _
    unfold runM
    rcases writeM_cases μ (chsOf μ d) c with ⟨k, _, hk, e⟩ | ⟨_, e⟩
    · rw [e]; exact ⟨rfl, rfl⟩
    · rw [e]; exact (print_bk { μ with cells := wr μ.cells (stepsOf μ.cells (chsOf μ d)) 11 } _ 0).2
theorem due_bank {n : Nat} {μ : Mt} (W : Wf n μ) (d : Dd) (c : Option Nat) (hd : d ≠ .up) : (refR μ d = none ∧ ∀ i, bk (dueM μ d c).2 i = cl (news μ.cells (chsOf μ d)) i) ∨ (∀ i, bk (dueM μ d c).2 i = bk μ i) := by
  cases hr : refR μ d with
  | some r => rw [dueM_ref hd hr]; exact .inr fun _ => rfl
  | none =>
    rw [dueM_run hd hr]
    rcases writeM_cases μ (chsOf μ d) c with ⟨k, _, hk, e⟩ | ⟨_, e⟩
    · have e1 : runM μ (chsOf μ d) c = (false, { μ with cells := wr μ.cells (stepsOf μ.cells (chsOf μ d)) k, up := false }) := by unfold runM; rw [e]
      rw [e1]
      exact .inr fun i => by show bk _ i = _; unfold bk; rw [bank_wr_cut W.any hk]
    · refine .inl ⟨rfl, fun i => ?_⟩
      show bk (runM μ (chsOf μ d) c).2 i = _
      unfold runM
      rw [e]
      show bk (printM { μ with cells := wr μ.cells (stepsOf μ.cells (chsOf μ d)) 11 } _).2 i = _
      rw [(print_bk _ _ i).1]
      exact bk_wr W.any (chsOf_ok μ d) i
/-- codes in a row -/
def Run (k m kd : Int) : Int → List Cd → Prop
  | _, [] => True
  | c, z :: zs => (z = mkCd k m c z.a kd ∧ 1 ≤ z.a ∧ z.a ≤ 99999) ∧ Run k m kd (c + 1) zs
theorem Run.app {k m kd : Int} {z : Cd} : ∀ {zs : List Cd} {c : Int}, Run k m kd c zs → z = mkCd k m (c + zs.length) z.a kd → 1 ≤ z.a ∧ z.a ≤ 99999 → Run k m kd c (zs ++ [z])
  | [], c, _, e, h => ⟨⟨by rw [e]; simp [mkCd], h⟩, trivial⟩
  | y :: ys, c, ⟨a, r⟩, e, h => ⟨a, Run.app r (by rw [show c + 1 + (ys.length : Int) = c + ((y :: ys).length : Nat) by simp; omega]; exact e) h⟩
theorem good_run {k m c kd a : Int} {z : Cd} (e : z = mkCd k m c a kd) (h : 1 ≤ a ∧ a ≤ 99999) : good k z m c kd = true := by
  subst e
  simp [good, mkCd, amt, h.1, h.2]
structure Jn (n : Nat) (η : Hs) (m : Int) (μ : Mt) (to bc : List Cd) : Prop where
  wf : Wf n μ
  gd : Gd μ
  nm : μ.num = m
  ky : μ.key = η.key
  t5 : bk μ 5 + to.length = (η.iss m).length
  tr : Run η.key m 1 (bk μ 5 + 1) to
  b6 : bk μ 6 = (η.tkn m).length + bc.length
  br : Run η.key m 2 ((η.tkn m).length + 1) bc
  cr : bk μ 4 + sA to + sA bc = outM η m
  l1 : to.length ≤ n
  l2 : bc.length ≤ n
theorem Jn.mono {n n' : Nat} {η : Hs} {m : Int} {μ : Mt} {to bc : List Cd} (J : Jn n η m μ to bc) (h : n ≤ n') : Jn n' η m μ to bc := ⟨J.wf.mono h, J.gd, J.nm, J.ky, J.t5, J.tr, J.b6, J.br, J.cr, Nat.le_trans J.l1 h, Nat.le_trans J.l2 h⟩
theorem Jn.buy {n : Nat} {η : Hs} {m : Int} {μ : Mt} {to bc : List Cd} (J : Jn n η m μ to bc) (a : Int) : Jn n (newH η (.buy a)) m μ to bc := ⟨J.wf, J.gd, J.nm, J.ky, J.t5, J.tr, J.b6, J.br, J.cr, J.l1, J.l2⟩
theorem Jn.iss {n : Nat} {η : Hs} {m : Int} {μ : Mt} {to bc : List Cd} (J : Jn n η m μ to bc) {a : Int} (h : 1 ≤ a ∧ a ≤ 99999) : Jn (n + 1) (newH η (.iss m a)) m μ (to ++ [issC η m a]) bc := by
  have e : (newH η (.iss m a)).iss m = η.iss m ++ [issC η m a] := setM_same
  have et : (newH η (.iss m a)).tkn m = η.tkn m := rfl
  have t5 := J.t5
  refine ⟨J.wf.mono (by omega), J.gd, J.nm, J.ky, ?_, ?_, by rw [et]; exact J.b6, by rw [et]; exact J.br, ?_, by have := J.l1; simp; omega, by have := J.l2; omega⟩
  · rw [e, List.length_append, List.length_append]
    simp
    omega
  · refine J.tr.app ?_ h
    show issC η m a = mkCd η.key m (bk μ 5 + 1 + to.length) a 1
    unfold issC
    rw [show bk μ 5 + 1 + (to.length : Int) = ((η.iss m).length : Int) + 1 by omega]
  · have cr := J.cr
    unfold outM at cr ⊢
    rw [e, et, sA_app, sA_app]
    omega
theorem Jn.iss_ne {n : Nat} {η : Hs} {m m' : Int} {μ : Mt} {to bc : List Cd} (J : Jn n η m' μ to bc) (a : Int) (h : m' ≠ m) : Jn n (newH η (.iss m a)) m' μ to bc := by
  have e : (newH η (.iss m a)).iss m' = η.iss m' := setM_ne h
  exact ⟨J.wf, J.gd, J.nm, J.ky, by rw [e]; exact J.t5, J.tr, J.b6, J.br, by unfold outM; rw [e]; exact J.cr, J.l1, J.l2⟩
theorem Jn.tk {n : Nat} {η : Hs} {m : Int} {μ : Mt} {to bc : List Cd} {z : Cd} (J : Jn n η m μ to (z :: bc)) (hm : m ∈ η.ms) : z.m = m ∧ resH η (.tk z) = none ∧ Jn n (newH η (.tk z)) m μ to bc := by
  obtain ⟨⟨ez, ha⟩, r⟩ := J.br
  have zm : z.m = m := by rw [ez]; rfl
  have e : (newH η (.tk z)).tkn m = η.tkn m ++ [z] := by show setM η.tkn z.m _ m = _; rw [zm, setM_same]
  have et : (newH η (.tk z)).iss m = η.iss m := rfl
  have b6 := J.b6
  refine ⟨zm, ?_, J.wf, J.gd, J.nm, J.ky, by rw [et]; exact J.t5, J.tr, ?_, ?_, ?_, J.l1, by have := J.l2; simp at this; omega⟩
  · have g : good η.key z z.m ((η.tkn z.m).length + 1) 2 = true := by rw [zm]; exact good_run ez ha
    have hm' : z.m ∈ η.ms := by rw [zm]; exact hm
    simp only [resH, hm', g, not_true_eq_false, if_false, Bool.true_eq_false]
  · rw [e, List.length_append]
    simp at b6 ⊢
    omega
  · rw [e, List.length_append]
    show Run η.key m 2 ((((η.tkn m).length + 1 : Nat) : Int) + 1) bc
    rw [show (((η.tkn m).length + 1 : Nat) : Int) = ((η.tkn m).length : Int) + 1 by omega]
    exact r
  · have cr := J.cr
    unfold outM at cr ⊢
    rw [e, et, sA_app]
    rw [sA_cons] at cr
    rw [show sA [z] = z.a by simp [sA]]
    omega
theorem Jn.tk_ne {n : Nat} {η : Hs} {m' : Int} {μ : Mt} {to bc : List Cd} {z : Cd} (J : Jn n η m' μ to bc) (h : m' ≠ z.m) : Jn n (newH η (.tk z)) m' μ to bc := by
  have e : (newH η (.tk z)).tkn m' = η.tkn m' := setM_ne h
  exact ⟨J.wf, J.gd, J.nm, J.ky, J.t5, J.tr, by rw [e]; exact J.b6, by rw [e]; exact J.br, by unfold outM; rw [e]; exact J.cr, J.l1, J.l2⟩
/-- the same numbers 4, 5, 6 -/
theorem Jn.same {n : Nat} {η : Hs} {m : Int} {μ μ' : Mt} {to bc : List Cd} (J : Jn n η m μ to bc) (W : Wf (n + 1) μ') (G : Gd μ') (nk : μ'.num = μ.num ∧ μ'.key = μ.key) (e4 : bk μ' 4 = bk μ 4) (e5 : bk μ' 5 = bk μ 5) (e6 : bk μ' 6 = bk μ 6) : Jn (n + 1) η m μ' to bc :=
  ⟨W, G, nk.1.trans J.nm, nk.2.trans J.ky, by rw [e5]; exact J.t5, by rw [e5]; exact J.tr, by rw [e6]; exact J.b6, J.br, by rw [e4]; exact J.cr, by have := J.l1; omega, by have := J.l2; omega⟩
theorem Jn.up {n : Nat} {η : Hs} {m : Int} {μ : Mt} {to bc : List Cd} (J : Jn n η m μ to bc) (hu : μ.up = false) (cut : Option Nat) : Jn (n + 1) η m (upM μ cut).2 to bc := by
  have e : dueM μ .up cut = upM μ cut := (does_due J.wf .up cut).2 (by simp [doesR, hu])
  have h := due_up_bk J.wf cut
  have W := due_wf J.wf .up cut
  have G := due_gd J.wf J.gd .up cut
  rw [e] at h W G
  exact J.same W G (h 0).2 (h 4).1 (h 5).1 (h 6).1
theorem Jn.stamp {n : Nat} {η : Hs} {m a : Int} {μ : Mt} {to bc : List Cd} (J : Jn n η m μ to bc) (hr : stampR μ a = none) (cut : Option Nat) : Jn (n + 1) η m (stampM μ a cut).2 to bc := by
  have e : dueM μ (.stamp a) cut = stampM μ a cut := (does_due J.wf (.stamp a) cut).2 hr
  have W := due_wf J.wf (.stamp a) cut
  have G := due_gd J.wf J.gd (.stamp a) cut
  have nk := due_nk (μ := μ) (.stamp a) cut (by simp)
  have B := due_bank J.wf (.stamp a) cut (by simp)
  rw [e] at W G nk B
  rcases B with ⟨_, h⟩ | h
  · refine J.same W G nk ?_ ?_ ?_
    · rw [h, news_out (by simp [chsOf, stampChs]) (by decide)]; simp [bk]
    · rw [h, news_out (by simp [chsOf, stampChs]) (by decide)]; simp [bk]
    · rw [h, news_out (by simp [chsOf, stampChs]) (by decide)]; simp [bk]
  · exact J.same W G nk (h 4) (h 5) (h 6)
theorem Jn.top {n : Nat} {η : Hs} {m : Int} {μ : Mt} {to bc : List Cd} {z : Cd} (J : Jn n η m μ (z :: to) bc) (hu : μ.up = true) : topR μ z = none ∧ ∀ cut, (bk (topM μ z cut).2 4 ≠ bk μ 4 ∧ Jn (n + 1) η m (topM μ z cut).2 to bc) ∨ (bk (topM μ z cut).2 4 = bk μ 4 ∧ Jn (n + 1) η m (topM μ z cut).2 (z :: to) bc) := by
  obtain ⟨⟨ez, ha⟩, r⟩ := J.tr
  have hg : topR μ z = none := by
    have g : good μ.key z μ.num (bk μ 5 + 1) 1 = true := by rw [J.ky, J.nm]; exact good_run ez ha
    simp [topR, hu, g]
  refine ⟨hg, fun cut => ?_⟩
  have hl := J.wf.any.1
  have zc : z.c = bk μ 5 + 1 := by rw [ez]; rfl
  have e : dueM μ (.top z) cut = topM μ z cut := (does_due J.wf (.top z) cut).2 hg
  have W := due_wf J.wf (.top z) cut
  have G := due_gd J.wf J.gd (.top z) cut
  have nk := due_nk (μ := μ) (.top z) cut (by simp)
  have B := due_bank J.wf (.top z) cut (by simp)
  rw [e] at W G nk B
  rcases B with ⟨_, h⟩ | h
  · have e4 : bk (topM μ z cut).2 4 = bk μ 4 + z.a := by
      rw [h]
      exact news_at hl (l := [(3, bk μ 3 + z.a)]) (r := [(5, bk μ 5 + 1)]) rfl (by simp) (by decide)
    have e5 : bk (topM μ z cut).2 5 = bk μ 5 + 1 := by
      rw [h]
      exact news_at hl (l := [(3, bk μ 3 + z.a), (4, bk μ 4 + z.a)]) (r := []) rfl (by simp) (by decide)
    have e6 : bk (topM μ z cut).2 6 = bk μ 6 := by
      have : ∀ c ∈ chsOf μ (.top z), c.1 ≠ 6 := by
        show ∀ c ∈ [(3, bk μ 3 + z.a), (4, bk μ 4 + z.a), (5, bk μ 5 + 1)], c.1 ≠ 6
        simp
      rw [h, news_out this (by decide)]; simp [bk]
    refine .inl ⟨by omega, W, G, nk.1.trans J.nm, nk.2.trans J.ky, ?_, by rw [e5]; exact r, by rw [e6]; exact J.b6, J.br, ?_, by have := J.l1; simp at this; omega, by have := J.l2; omega⟩
    · have := J.t5
      rw [e5]
      simp at this
      omega
    · have := J.cr
      rw [sA_cons] at this
      omega
  · exact .inr ⟨h 4, J.same W G nk (h 4) (h 5) (h 6)⟩
theorem Jn.back {n : Nat} {η : Hs} {m a : Int} {μ : Mt} {to bc : List Cd} (J : Jn n η m μ to bc) (hr : stampR μ a = none) (cut : Option Nat) :
    (bk (backM μ a cut).2 3 ≠ bk μ 3 ∧ ∃ z, lastB (backM μ a cut).2 = cdD z ∧ Jn (n + 1) η m (backM μ a cut).2 to (bc ++ [z])) ∨ (bk (backM μ a cut).2 3 = bk μ 3 ∧ Jn (n + 1) η m (backM μ a cut).2 to bc) := by
  have hl := J.wf.any.1
  have e : dueM μ (.back a) cut = backM μ a cut := (does_due J.wf (.back a) cut).2 hr
  have W := due_wf J.wf (.back a) cut
  have G := due_gd J.wf J.gd (.back a) cut
  have nk := due_nk (μ := μ) (.back a) cut (by simp)
  have B := due_bank J.wf (.back a) cut (by simp)
  have ha : 1 ≤ a ∧ a ≤ 99999 := amt_iff.mp (by
    refine Classical.byContradiction fun q => ?_
    have q : amt a = false := by simpa using q
    unfold stampR at hr
    rw [q] at hr
    split at hr <;> simp at hr)
  rw [e] at W G nk B
  rcases B with ⟨_, h⟩ | h
  · have e3 : bk (backM μ a cut).2 3 = bk μ 3 - a := by
      rw [h]
      exact news_at hl (l := []) (r := [(4, bk μ 4 - a), (6, bk μ 6 + 1), (7, a)]) rfl (by simp) (by decide)
    have e4 : bk (backM μ a cut).2 4 = bk μ 4 - a := by
      rw [h]
      exact news_at hl (l := [(3, bk μ 3 - a)]) (r := [(6, bk μ 6 + 1), (7, a)]) rfl (by simp) (by decide)
    have e6 : bk (backM μ a cut).2 6 = bk μ 6 + 1 := by
      rw [h]
      exact news_at hl (l := [(3, bk μ 3 - a), (4, bk μ 4 - a)]) (r := [(7, a)]) rfl (by simp) (by decide)
    have e7 : bk (backM μ a cut).2 7 = a := by
      rw [h]
      exact news_at hl (l := [(3, bk μ 3 - a), (4, bk μ 4 - a), (6, bk μ 6 + 1)]) (r := []) rfl (by simp) (by decide)
    have e5 : bk (backM μ a cut).2 5 = bk μ 5 := by rw [h, news_out (by simp [chsOf, backChs]) (by decide)]; simp [bk]
    have b6 := J.b6
    have p6 := J.wf.b6
    refine .inl ⟨by omega, mkCd η.key m (bk μ 6 + 1) a 2, ?_, W, G, nk.1.trans J.nm, nk.2.trans J.ky, by rw [e5]; exact J.t5, by rw [e5]; exact J.tr, ?_, ?_, ?_, by have := J.l1; omega, by have := J.l2; simp; omega⟩
    · unfold lastB
      rw [if_pos (by omega), e6, e7, nk.1, nk.2, J.nm, J.ky]
    · rw [e6, List.length_append]
      simp
      omega
    · refine J.br.app ?_ ha
      show mkCd η.key m (bk μ 6 + 1) a 2 = mkCd η.key m _ a 2
      rw [show bk μ 6 + 1 = ((η.tkn m).length : Int) + 1 + bc.length by omega]
    · have := J.cr
      rw [sA_app, show sA [mkCd η.key m (bk μ 6 + 1) a 2] = a by simp [sA, mkCd]]
      omega
  · exact .inr ⟨h 3, J.same W G nk (h 4) (h 5) (h 6)⟩
/-! the house -/
structure Jh (η : Hs) : Prop where
  mo : η.money + outS η η.ms = η.spent
  m0 : 0 ≤ η.money
theorem outS_congr {η η' : Hs} {ms : List Int} (h : ∀ m ∈ ms, outM η' m = outM η m) : outS η' ms = outS η ms := by
  unfold outS
  rw [List.map_congr_left h]
theorem outS_one {η η' : Hs} {m d : Int} : ∀ {ms : List Int}, ms.Nodup → m ∈ ms → (∀ j, j ≠ m → outM η' j = outM η j) → outM η' m = outM η m + d → outS η' ms = outS η ms + d
  | x :: ms, nd, hm, h1, h2 => by
    have nd' := List.nodup_cons.mp nd
    show outM η' x + outS η' ms = outM η x + outS η ms + d
    by_cases e : x = m
    · subst e
      rw [h2, outS_congr fun j hj => h1 j fun z => nd'.1 (z ▸ hj)]
      omega
    · rw [h1 x e, outS_one nd'.2 (by rcases List.mem_cons.mp hm with z | z; exact absurd z.symm e; exact z) h1 h2]
      omega
theorem Jh.buy {η : Hs} (J : Jh η) {a : Int} (h : 1 ≤ a) : Jh (newH η (.buy a)) := by
  have mo := J.mo
  have m0 := J.m0
  refine ⟨?_, ?_⟩
  · show η.money + a + outS η η.ms = η.spent + a
    omega
  · show 0 ≤ η.money + a
    omega
theorem Jh.iss {η : Hs} (J : Jh η) {m a : Int} (nd : η.ms.Nodup) (hm : m ∈ η.ms) (h : a ≤ η.money) : Jh (newH η (.iss m a)) := by
  have mo := J.mo
  refine ⟨?_, ?_⟩
  · show η.money - a + outS (newH η (.iss m a)) η.ms = η.spent
    have h1 : ∀ j, j ≠ m → outM (newH η (.iss m a)) j = outM η j := fun j hj => by
      unfold outM
      rw [show (newH η (.iss m a)).iss j = η.iss j from setM_ne hj]
      rfl
    have h2 : outM (newH η (.iss m a)) m = outM η m + a := by
      unfold outM
      rw [show (newH η (.iss m a)).iss m = η.iss m ++ [issC η m a] from setM_same, sA_app, show sA [issC η m a] = a by simp [sA, issC, mkCd], show (newH η (.iss m a)).tkn m = η.tkn m from rfl]
      omega
    rw [outS_one nd hm h1 h2]
    omega
  · show 0 ≤ η.money - a
    omega
theorem Jh.tk {η : Hs} (J : Jh η) {z : Cd} (nd : η.ms.Nodup) (hm : z.m ∈ η.ms) (h : 0 ≤ z.a) : Jh (newH η (.tk z)) := by
  have mo := J.mo
  have m0 := J.m0
  refine ⟨?_, ?_⟩
  · show η.money + z.a + outS (newH η (.tk z)) η.ms = η.spent
    have h1 : ∀ j, j ≠ z.m → outM (newH η (.tk z)) j = outM η j := fun j hj => by
      unfold outM
      rw [show (newH η (.tk z)).tkn j = η.tkn j from setM_ne hj]
      rfl
    have h2 : outM (newH η (.tk z)) z.m = outM η z.m + (0 - z.a) := by
      unfold outM
      rw [show (newH η (.tk z)).tkn z.m = η.tkn z.m ++ [z] from setM_same, sA_app, show sA [z] = z.a by simp [sA], show (newH η (.tk z)).iss z.m = η.iss z.m from rfl]
      omega
    rw [outS_one nd hm h1 h2]
    omega
  · show 0 ≤ η.money + z.a
    omega
/-- all comes to what was bought -/
theorem sumN_add (N : Nat) (f g : Nat → Int) : sumN N (fun j => f j + g j) = sumN N f + sumN N g := by
  unfold sumN
  induction N with
  | zero => rfl
  | succ n ih => rw [List.range_succ]; simp only [List.map_append, List.sum_append, List.map_cons, List.map_nil, List.sum_cons, List.sum_nil]; omega
theorem sumN_congr {N : Nat} {f g : Nat → Int} (h : ∀ j, j < N → f j = g j) : sumN N f = sumN N g := by
  unfold sumN
  rw [List.map_congr_left fun j hj => h j (List.mem_range.mp hj)]
theorem outS_sumN (η : Hs) (ms : List Int) : outS η ms = sumN ms.length fun j => outM η (cl ms j) := by
  unfold outS sumN
  congr 1
  apply List.ext_getElem
  · rw [List.length_map, List.length_map, List.length_range]
  · intro i h1 h2
    rw [List.getElem_map, List.getElem_map, List.getElem_range]
    rw [List.length_map] at h1
    unfold cl
    rw [List.getD_eq_getElem?_getD, List.getElem?_eq_getElem h1]
    rfl
theorem all_told {n : Nat} {η : Hs} {μ : Nat → Mt} {to bc : Nat → List Cd} (J : Jh η) (h : ∀ j, j < η.ms.length → Jn n η (cl η.ms j) (μ j) (to j) (bc j)) :
    (outS η η.ms - sumN η.ms.length fun j => bk (μ j) 4) = (sumN η.ms.length fun j => sA (to j ++ bc j)) ∧
    η.money + ((outS η η.ms - sumN η.ms.length fun j => bk (μ j) 4) + ((sumN η.ms.length fun j => bk (μ j) 3) + (sumN η.ms.length fun j => bk (μ j) 2))) = η.spent := by
  have e1 : outS η η.ms = (sumN η.ms.length fun j => bk (μ j) 4) + sumN η.ms.length fun j => sA (to j ++ bc j) := by
    rw [outS_sumN, ← sumN_add]
    exact sumN_congr fun j hj => by have := (h j hj).cr; rw [sA_app]; omega
  have e2 : (sumN η.ms.length fun j => bk (μ j) 4) = (sumN η.ms.length fun j => bk (μ j) 2) + sumN η.ms.length fun j => bk (μ j) 3 := by
    rw [← sumN_add]
    exact sumN_congr fun j hj => (h j hj).gd.c.sm.symm
  have := J.mo
  exact ⟨by omega, by omega⟩
end Fk
namespace Fk
open PySem PySem.Spec PyProof.Rows L2
local macro_rules | `(tactic| wtm_at "ln") => `(tactic| first
  | omega
  | (simp only [List.length_cons, List.length_nil, List.length_map, List.length_append, List.length_replicate, List.length_take, List.length_drop, List.length_set]; omega)
  | (with_unfolding_all exact (by decide)))
local macro_rules | `(tactic| wtm_at "ar") => `(tactic| first
  | ((with_reducible show CMulW _ _); (refine' mulS ?_ ?_ <;> omega))
  | ((with_reducible show CDivW _ _); (refine' divS ?_ ?_ <;> omega))
  | ((with_reducible show CPow _ _); exact ⟨by decide, by decide, by decide⟩)
  | (show (0 : Int) < _; omega)
  | (with_unfolding_all exact (by decide)))
local macro_rules | `(tactic| wtm_at "at") => `(tactic| first
  | assumption
  | (refine' cl_atE ?e80 ?h80; (case' e80 => first | exact rfl | assumption); (case' h80 => wtm_at "ln"))
  | exact rfl)
local macro_rules | `(tactic| wtm_at "fr") => `(tactic| first
  | assumption
  | ((with_reducible refine' Mx.free0 ?m99 ?h99); (case' h99 => assumption); (case' m99 => wtm_at "mo")))
local macro_rules | `(tactic| wtm_at "hp") => `(tactic| first
  | assumption
  | ((with_reducible refine' Mx.get0 ?m1 ?h1); (case' m1 => assumption); (case' h1 => wtm_at "hp"))
  | ((with_reducible refine' Mx.get ?m2 ?n2 ?h2); (case' m2 => assumption); (case' n2 => wtm_at "nin"); (case' h2 => wtm_at "hp")))
local macro_rules | `(tactic| wtm_at "sl") => `(tactic| first
  | assumption
  | ((with_reducible refine' Mx.sqL0 ?m96 ?h96); (case' h96 => assumption); (case' m96 => wtm_at "mo"))
  | (refine' SqL.of ?h3; (case' h3 => wtm_at "hp"))
  | ((with_reducible refine' Mx.sqL0 ?m4 ?h4); (case' m4 => assumption); (case' h4 => wtm_at "sl"))
  | ((with_reducible refine' Mx.sqL ?m5 ?n5 ?h5); (case' m5 => assumption); (case' n5 => wtm_at "nin"); (case' h5 => wtm_at "sl")))
local macro_rules | `(tactic| wtm_at "st") => `(tactic| first
  | assumption
  | ((with_reducible refine' Mx.sqT0 ?m97 ?h97); (case' h97 => assumption); (case' m97 => wtm_at "mo"))
  | (refine' SqT.of ?h6; (case' h6 => wtm_at "hp"))
  | ((with_reducible refine' Mx.sqT0 ?m7 ?h7); (case' m7 => assumption); (case' h7 => wtm_at "st"))
  | ((with_reducible refine' Mx.sqT ?m8 ?n8 ?h8); (case' m8 => assumption); (case' n8 => wtm_at "nin"); (case' h8 => wtm_at "st")))
local macro_rules | `(tactic| wtm_at "mx") => `(tactic| first
  | assumption
  | exact Mx.refl
  | ((with_reducible refine' Mx.of0 ?h9); (case' h9 => assumption))
  | ((with_reducible refine' Mx.trans ?h10 ?m10); (case' m10 => first | assumption | ((with_reducible refine' Mx.of0 ?q10); (case' q10 => assumption))); (case' h10 => wtm_at "mx")))
local macro_rules | `(tactic| wtm_at "mo") => `(tactic| first
  | wtm_at "mx"
  | ((with_reducible refine' Mx.own ?m90 ?f90 ?k90); (case' k90 => assumption); (case' f90 => wtm_at "fr"); (case' m90 => wtm_at "mo"))
  | ((with_reducible refine' Mx.trans ?h91 ?m91); (case' m91 => first | assumption | ((with_reducible refine' Mx.of0 ?q91); (case' q91 => assumption))); (case' h91 => wtm_at "mo")))
local macro_rules | `(tactic| wtm_at "ne") => `(tactic| first
  | assumption
  | exact Ne.symm (by assumption)
  | ((with_reducible refine' ne_of_none ?x94 ?y94); (case' y94 => assumption); (case' x94 => wtm_at "hp"))
  | ((with_reducible refine' Ne.symm (ne_of_none ?x95 ?y95)); (case' y95 => assumption); (case' x95 => wtm_at "hp")))
local macro_rules | `(tactic| wtm_at "nin") => `(tactic| first
  | assumption
  | exact List.not_mem_nil
  | ((with_reducible refine' List.not_mem_cons_of_ne_of_not_mem ?h98 ?t98); (case' h98 => wtm_at "ne"); (case' t98 => wtm_at "nin")))
local macro_rules | `(tactic| wtm_at "g1") => `(tactic| first
  | ((with_reducible refine' g_var ?h11 ?k11); (case' h11 => exact rfl))
  | with_reducible refine' g_c ?_
  | with_reducible refine' g_op ?_
  | with_reducible refine' g_I0 ?_
  | ((with_reducible refine' g_I ?c12 ?k12); (case' c12 => wtm_at "ar"))
  | with_reducible refine' g_cons ?_
  | with_reducible refine' g_nil ?_
  | with_reducible refine' g_seq ?_
  | with_reducible refine' g_asg ?_
  | with_reducible refine' g_name ?_
  | with_reducible refine' g_ret ?_
  | with_reducible refine' g_if ?_
  | with_reducible refine' g_test ?_
  | with_reducible refine' g_tB ?_
  | with_reducible refine' g_bl ?_
  | ((with_reducible refine' g_eq ?h13 ?k13); (case' h13 => exact rfl))
  | ((with_reducible refine' g_ne ?h14 ?k14); (case' h14 => exact rfl))
  | with_reducible refine' g_CB ?_
  | with_reducible refine' g_call ?_
  | with_reducible refine' g_drop ?_
  | with_reducible refine' g_next ?_
  | with_reducible refine' g_not ?_
  | with_reducible refine' g_and ?_
  | with_reducible refine' g_or ?_
  | with_reducible refine' g_un ?_
  | with_reducible refine' g_U ?_
  | with_reducible refine' g_tup ?_
  | with_reducible refine' g_lst ?_
  | ((with_reducible refine' g_kNew ?h15 ?k15); (case' h15 => wtm_at "ln"); (case' k15 => intro _ _ _ _ _))
  | ((with_reducible refine' g_ixL ?h16 ?a16 ?k16); (case' h16 => wtm_at "sl"); (case' a16 => wtm_at "at"))
  | ((with_reducible refine' g_ixT ?h17 ?a17 ?k17); (case' h17 => wtm_at "st"); (case' a17 => wtm_at "at"))
  | with_reducible refine' g_slice ?_
  | with_reducible refine' g_part ?_
  | with_reducible refine' g_kPart ?_
  | with_reducible refine' g_noPart ?_
  | ((with_reducible refine' g_slL ?h18 ?k18); (case' h18 => wtm_at "sl"); (case' k18 => intro _ _ _ _ _))
  | ((with_reducible refine' g_cat ?h119 ?h219 ?l19 ?k19); (case' h119 => wtm_at "hp"); (case' h219 => wtm_at "hp"); (case' l19 => wtm_at "ln"); (case' k19 => intro _ _ _ _ _))
  | ((with_reducible refine' g_rep ?h120 ?h220 ?h320 ?l20 ?k20); (case' h120 => wtm_at "hp"); (case' h220 => wtm_at "ln"); (case' h320 => wtm_at "ln"); (case' l20 => wtm_at "ln"); (case' k20 => intro _ _ _ _ _))
  | ((with_reducible refine' g_append ?h21 ?l21 ?k21); (case' h21 => wtm_at "hp"); (case' l21 => wtm_at "ln"); (case' k21 => intro _ _ _))
  | ((with_reducible refine' g_kBM ?h22 ?k22); (case' h22 => wtm_at "sl"))
  | ((with_reducible refine' g_kBM0 ?h23 ?k23); (case' h23 => wtm_at "sl"))
  | ((with_reducible refine' g_kL ?h24 ?k24); (case' h24 => wtm_at "sl"))
  | ((with_reducible refine' g_kR1 ?h125 ?h225 ?k25); (case' h125 => wtm_at "ln"); (case' h225 => wtm_at "ln"))
  | ((with_reducible refine' g_kR2 ?h126 ?h226 ?h326 ?h426 ?k26); (case' h126 => wtm_at "ln"); (case' h226 => wtm_at "ln"); (case' h326 => wtm_at "ln"); (case' h426 => wtm_at "ln"))
  | ((with_reducible refine' g_lenL ?h27 ?k27); (case' h27 => wtm_at "sl"))
  | ((with_reducible refine' g_lenT ?h28 ?k28); (case' h28 => wtm_at "st"))
  | ((with_reducible refine' g_listL ?h29 ?k29); (case' h29 => wtm_at "sl"); (case' k29 => intro _ _ _ _ _))
  | ((with_reducible refine' g_tupleL ?h30 ?k30); (case' h30 => wtm_at "sl"); (case' k30 => intro _ _ _ _ _))
  | with_reducible refine' g_max ?_
  | with_reducible refine' g_min ?_
  | with_reducible refine' g_intB ?_
  | with_reducible refine' g_fld ?_
  | with_reducible refine' g_put ?_
  | with_reducible refine' g_dget ?_
  | with_reducible refine' g_isN ?_
  | with_reducible refine' g_notN ?_
  | with_reducible refine' g_ifE ?_
  | with_reducible refine' g_andV ?_
  | with_reducible refine' g_orV ?_
  | with_reducible refine' g_notV ?_
  | with_reducible refine' g_kIf ?_
  | with_reducible refine' g_chain ?_
  | with_reducible refine' g_kCh ?_
  | with_reducible refine' g_sub ?_
  | ((with_reducible refine' g_setI ?h92 ?e92 ?j92 ?k92); (case' h92 => wtm_at "hp"); (case' e92 => first | exact rfl | assumption); (case' j92 => wtm_at "ln"); (case' k92 => intro _ _ _))
  | ((with_reducible refine' g_setL ?h89 ?i89 ?k89); (case' h89 => wtm_at "hp"); (case' i89 => exact ixE rfl (by wtm_at "ln")); (case' k89 => intro _ _ _))
  | ((with_reducible refine' g_gtup ?h93 ?e93 ?k93); (case' h93 => wtm_at "st"); (case' e93 => exact rfl))
  | with_reducible refine' g_gcons ?_
  | with_reducible refine' g_gnil ?_
  | with_reducible refine' g_par ?_
  | with_reducible refine' g_kPar ?_
  | with_reducible refine' g_meth ?_
  | with_reducible refine' g_bm ?_
  | with_reducible refine' g_bm0 ?_
  | with_reducible refine' g_raise ?_
  | with_reducible refine' g_for ?_
  | with_reducible refine' g_iR1 ?_
  | with_reducible refine' g_iR2 ?_
  | with_reducible refine' g_iL ?_
  | with_reducible refine' g_lc ?_
  | with_reducible refine' g_retN ?_
  | with_reducible refine' g_no (b := false) rfl ?_
  | with_reducible refine' g_yes (b := true) rfl ?_)
local macro_rules | `(tactic| wtm_at "go") => `(tactic| repeat (wtm_at "g1"))
local macro_rules | `(tactic| wtm_at "gs") => `(tactic| repeat ((fail_if_success (with_reducible refine' g_ifE ?_)); wtm_at "g1"))
local macro_rules | `(tactic| wtm_at "gi") => `(tactic| repeat ((fail_if_success (with_reducible refine' g_if ?_)); wtm_at "g1"))
local macro_rules | `(tactic| wtm_at "gr") => `(tactic| repeat ((fail_if_success (with_reducible refine' g_ret ?_)); wtm_at "g1"))
local macro_rules | `(tactic| wtm_at "gq") => `(tactic| repeat ((fail_if_success (with_reducible refine' g_asg ?_)); wtm_at "g1"))

/-! ### ways -/
theorem StAt.nt {K : PySem.W.Frag} {H0 H : Hp} {r : Addr} (s : StAt K H0 H r) : NoTup H [r] := by
  obtain ⟨_, _, _, _, _, h, _⟩ := s.ex
  exact noTup1 h
structure WyAt (H : Hp) (lt lb : Addr) (to bc : List Cd) : Prop where
  l1 : ∃ us, H lt = some (.lst us) ∧ CdAll H us to
  l2 : ∃ us, H lb = some (.lst us) ∧ CdAll H us bc
theorem WyAt.mx {S : List Addr} {H H' : Hp} {lt lb : Addr} {to bc : List Cd} (w : WyAt H lt lb to bc) (m : Mx S H H') (n : NoTup H S) (h1 : lt ∉ S) (h2 : lb ∉ S) : WyAt H' lt lb to bc := by
  obtain ⟨⟨us, e1, d1⟩, ⟨vs, e2, d2⟩⟩ := w
  exact ⟨⟨us, m _ _ e1 h1, d1.mx m n⟩, ⟨vs, m _ _ e2 h2, d2.mx m n⟩⟩
theorem Obj10.lst {H : Hp} {a : Addr} {xs : List V} (h : H a = some (.lst xs)) : NoTup H [a] ∧ H a ≠ none := ⟨noTup1 h, by rw [h]; simp⟩
theorem HsAt.obj {C : Addr} {H : Hp} {h di dt : Addr} {ai ak : Int → Addr} {η : Hs} (M : HsAt C H h di dt ai ak η) : ∀ y ∈ ftH h di dt ai ak η.ms, NoTup H [y] ∧ H y ≠ none := fun y hy => by
  obtain ⟨⟨dx, ob⟩, di', dt', li, lk⟩ := M
  simp only [ftH, List.mem_cons, List.mem_append, List.mem_map] at hy
  rcases hy with rfl | rfl | rfl | ⟨m, hm, rfl⟩ | ⟨m, hm, rfl⟩
  · exact ⟨noTupI ob, by rw [ob]; simp⟩
  · exact ⟨noTupD di', by rw [di']; simp⟩
  · exact ⟨noTupD dt', by rw [dt']; simp⟩
  · obtain ⟨us, e, _⟩ := li m hm; exact Obj10.lst e
  · obtain ⟨us, e, _⟩ := lk m hm; exact Obj10.lst e
theorem MetAt.obj {K : PySem.W.Frag} {C : Addr} {H : Hp} {p pm pp : Addr} {μ : Mt} (M : MetAt K C H p pm pp μ) : ∀ y ∈ [p, pm, pp], NoTup H [y] ∧ H y ≠ none := fun y hy => by
  obtain ⟨⟨dx, ob⟩, me, ⟨vs, pr, dp⟩, ne⟩ := M
  simp only [List.mem_cons, List.not_mem_nil, or_false] at hy
  rcases hy with rfl | rfl | rfl
  · exact ⟨noTupI ob, by rw [ob]; simp⟩
  · exact Obj10.lst me
  · exact Obj10.lst pr
theorem noTup_all {H : Hp} {S : List Addr} (h : ∀ y ∈ S, NoTup H [y]) : NoTup H S := fun x hx => h x hx x (by simp)
/-- the house, a meter, its way: apart -/
structure Ap (H0 : Hp) (r h di dt : Addr) (ai ak : Int → Addr) (ms : List Int) (p pm pp : Addr) : Prop where
  a1 : ∀ y ∈ ftH h di dt ai ak ms, y ≠ r ∧ H0 y = none
  a2 : ∀ y ∈ [p, pm, pp], y ≠ r ∧ H0 y = none
  a3 : ∀ y ∈ ftH h di dt ai ak ms, y ∉ [p, pm, pp]
structure Aw (r h di dt : Addr) (ai ak : Int → Addr) (ms : List Int) (p pm pp l : Addr) : Prop where
  w0 : l ≠ r
  w1 : l ∉ ftH h di dt ai ak ms
  w2 : l ∉ [p, pm, pp]
structure Cv (K : PySem.W.Frag) (C CM : Addr) (H0 H : Hp) (r h di dt : Addr) (ai ak : Int → Addr) (η : Hs) (p pm pp : Addr) (μ : Mt) (lt lb : Addr) (to bc : List Cd) : Prop where
  st : StAt K H0 H r
  hs : HsAt C H h di dt ai ak η
  me : MetAt K CM H p pm pp μ
  wy : WyAt H lt lb to bc
  ap : Ap H0 r h di dt ai ak η.ms p pm pp
  x1 : Aw r h di dt ai ak η.ms p pm pp lt
  x2 : Aw r h di dt ai ak η.ms p pm pp lb
section
variable {K : PySem.W.Frag} {C CM : Addr} {H0 H H' : Hp} {r h di dt : Addr} {ai ak : Int → Addr} {η η' : Hs} {p pm pp : Addr} {μ μ' : Mt} {lt lb : Addr} {to bc : List Cd}
theorem Cv.mr (D : Cv K C CM H0 H r h di dt ai ak η p pm pp μ lt lb to bc) (m : Mx [r] H H') (s : StAt K H0 H' r) : Cv K C CM H0 H' r h di dt ai ak η p pm pp μ lt lb to bc := by
  obtain ⟨st, hs, me, wy, ap, x1, x2⟩ := D
  have nt := st.nt
  refine ⟨s, hs.mx m nt (fun y hy => by simp; exact (ap.a1 y hy).1), me.mx m nt ?_ ?_ ?_, wy.mx m nt (by simp; exact x1.w0) (by simp; exact x2.w0), ap, x1, x2⟩
  · simp; exact (ap.a2 p (by simp)).1
  · simp; exact (ap.a2 pm (by simp)).1
  · simp; exact (ap.a2 pp (by simp)).1
theorem Cv.mx0 (D : Cv K C CM H0 H r h di dt ai ak η p pm pp μ lt lb to bc) (m : Mx [] H H') : Cv K C CM H0 H' r h di dt ai ak η p pm pp μ lt lb to bc := by
  obtain ⟨st, hs, me, wy, ap, x1, x2⟩ := D
  exact ⟨st.mx0 m, hs.mx0 m, me.mx0 m, wy.mx m noTup0 (by simp) (by simp), ap, x1, x2⟩
theorem Cv.met (D : Cv K C CM H0 H r h di dt ai ak η p pm pp μ lt lb to bc) (m : Mx [p, pm, pp] H H') (M : MetAt K CM H' p pm pp μ') : Cv K C CM H0 H' r h di dt ai ak η p pm pp μ' lt lb to bc := by
  obtain ⟨st, hs, me, wy, ap, x1, x2⟩ := D
  have nt : NoTup H [p, pm, pp] := noTup_all fun y hy => (me.obj y hy).1
  exact ⟨st.mv m (fun x hx => (ap.a2 x hx).2) (fun z => (ap.a2 r z).1 rfl), hs.mx m nt ap.a3, M, wy.mx m nt x1.w2 x2.w2, ap, x1, x2⟩
theorem Cv.tk {m : Int} (D : Cv K C CM H0 H r h di dt ai ak η p pm pp μ lt lb to bc) (hm : m ∈ η.ms) (mx : Mx [h, ak m] H H') (M : HsAt C H' h di dt ai ak η') (e : η'.ms = η.ms) : Cv K C CM H0 H' r h di dt ai ak η' p pm pp μ lt lb to bc := by
  obtain ⟨st, hs, me, wy, ap, x1, x2⟩ := D
  have mem : ∀ y ∈ [h, ak m], y ∈ ftH h di dt ai ak η.ms := fun y hy => by
    simp only [List.mem_cons, List.not_mem_nil, or_false] at hy
    rcases hy with rfl | rfl
    · simp [ftH]
    · exact ftH_k hm
  have nt : NoTup H [h, ak m] := noTup_all fun y hy => (hs.obj y (mem y hy)).1
  refine ⟨st.mv mx (fun x hx => (ap.a1 x (mem x hx)).2) (fun z => (ap.a1 r (mem r z)).1 rfl), M, me.mx mx nt ?_ ?_ ?_, wy.mx mx nt (fun z => x1.w1 (mem _ z)) (fun z => x2.w1 (mem _ z)), by rw [e]; exact ap, by rw [e]; exact x1, by rw [e]; exact x2⟩
  · exact fun z => ap.a3 p (mem p z) (by simp)
  · exact fun z => ap.a3 pm (mem pm z) (by simp)
  · exact fun z => ap.a3 pp (mem pp z) (by simp)
/-- a new list is apart from all -/
theorem Cv.new (D : Cv K C CM H0 H r h di dt ai ak η p pm pp μ lt lb to bc) {l : Addr} (e : H l = none) : Aw r h di dt ai ak η.ms p pm pp l :=
  ⟨D.st.new e, fun z => (D.hs.obj l z).2 e, fun z => (D.me.obj l z).2 e⟩
end
/-- what is on the way, from the second on -/
theorem cut_one {us : List V} : cutV us (some 1) none = us.drop 1 := by
  have e : (1 : Int) = ((1 : Nat) : Int) := rfl
  rw [e]
  unfold cutV
  rw [HT.sIx_nat, HT.sIx_none]
  by_cases h : 1 ≤ us.length
  · rw [Nat.min_eq_left h, List.take_of_length_le (by simp)]
  · have : us = [] := List.length_eq_zero_iff.mp (by omega)
    subst this
    rfl
theorem CdAll.tail {H : Hp} {us : List V} {z : Cd} {zs : List Cd} (h : CdAll H us (z :: zs)) : ∃ t, us[0]? = some (.ref t) ∧ H t = some (.tup z.vs) ∧ CdAll H (us.drop 1) zs := by
  match us, h with
  | u :: us, ⟨⟨t, e, e2⟩, r⟩ => exact ⟨t, by rw [e]; rfl, e2, r⟩
theorem Aw.nin {r h di dt : Addr} {ai ak : Int → Addr} {ms : List Int} {p pm pp l : Addr} {m : Int} (a : Aw r h di dt ai ak ms p pm pp l) (hm : m ∈ ms) : l ∉ [r, h, ak m, p, pm, pp] := fun z => by
  simp only [List.mem_cons, List.not_mem_nil, or_false] at z
  rcases z with z | z | z | z
  · exact a.w0 z
  · exact a.w1 (by rw [z]; simp [ftH])
  · exact a.w1 (by rw [z]; exact ftH_k hm)
  · exact a.w2 (by simpa using z)
section
variable {P : Program} {w : World} {K : PySem.W.Frag} {mg : Str → Option Value} {base : Heap}
local macro_rules | `(tactic| wtm_at "g1") => `(tactic| first
  | ((with_reducible refine' g_fOwn (by assumption) ?h201 ?k201); (case' h201 => wtm_at "hp"))
  | ((with_reducible refine' g_fKey (by assumption) ?h202 ?k202); (case' h202 => wtm_at "hp"))
  | ((with_reducible refine' g_fMem (by assumption) ?h203 ?k203); (case' h203 => wtm_at "hp"))
  | ((with_reducible refine' g_fPri (by assumption) ?h204 ?k204); (case' h204 => wtm_at "hp"))
  | ((with_reducible refine' g_fAwa (by assumption) ?h205 ?k205); (case' h205 => wtm_at "hp"))
  | ((with_reducible refine' g_pAwa (by assumption) ?h206 ?k206); (case' h206 => wtm_at "hp"); (case' k206 => intro _ _ _))
  | ((with_reducible refine' g_kMeth ?h207 ?l207 ?k207); (case' h207 => wtm_at "hp"); (case' l207 => exact rfl)))

local macro_rules | `(tactic| wtm_at "g1") => `(tactic| first
  | ((with_reducible refine' g_dNum ?h311 ?k311); (case' h311 => wtm_at "hp"))
  | ((with_reducible refine' g_dKey ?h312 ?k312); (case' h312 => wtm_at "hp"))
  | ((with_reducible refine' g_dCe ?h313 ?k313); (case' h313 => wtm_at "hp"))
  | ((with_reducible refine' g_dSt ?h314 ?k314); (case' h314 => wtm_at "hp"))
  | ((with_reducible refine' g_dUp ?h315 ?k315); (case' h315 => wtm_at "hp"))
  | ((with_reducible refine' g_kDGetS ?h301 ?l301 ?k301); (case' h301 => wtm_at "hp"); (case' l301 => exact rfl))
  | (with_reducible refine' g_dput ?_)
  | (with_reducible refine' g_iK ?_)
  | ((with_reducible refine' g_disp ?k305); (case' k305 => intro _ _ _ _ _))
  | (with_reducible refine' g_pcons ?_)
  | (with_reducible refine' g_pnil ?_)
  | ((with_reducible refine' g_kDisp ?h306 ?e306 ?f306 ?l306 ?k306); (case' h306 => wtm_at "hp"); (case' e306 => exact rfl); (case' f306 => exact rfl); (case' l306 => wtm_at "ln"); (case' k306 => intro _ _ _))
  | ((with_reducible refine' g_pUp ?h302 ?k302); (case' h302 => wtm_at "hp"); (case' k302 => intro _ _ _))
  | ((with_reducible refine' g_pSt ?h303 ?k303); (case' h303 => wtm_at "hp"); (case' k303 => intro _ _ _))
  | ((with_reducible refine' g_pCe ?h304 ?k304); (case' h304 => wtm_at "hp"); (case' k304 => intro _ _ _)))

local macro_rules | `(tactic| wtm_at "g1") => `(tactic| first
  | ((with_reducible refine' g_hKey (by assumption) ?h501 ?k501); (case' h501 => wtm_at "hp"))
  | ((with_reducible refine' g_hMon (by assumption) ?h502 ?k502); (case' h502 => wtm_at "hp"))
  | ((with_reducible refine' g_hSpe (by assumption) ?h503 ?k503); (case' h503 => wtm_at "hp"))
  | ((with_reducible refine' g_hIss (by assumption) ?h504 ?k504); (case' h504 => wtm_at "hp"))
  | ((with_reducible refine' g_hTak (by assumption) ?h505 ?k505); (case' h505 => wtm_at "hp"))
  | ((with_reducible refine' g_hpMon (by assumption) ?h506 ?k506); (case' h506 => wtm_at "hp"); (case' k506 => intro _ _ _))
  | ((with_reducible refine' g_hpSpe (by assumption) ?h507 ?k507); (case' h507 => wtm_at "hp"); (case' k507 => intro _ _ _))
  | ((with_reducible refine' g_kMeth ?h508 ?l508 ?k508); (case' h508 => wtm_at "hp"); (case' l508 => exact rfl))
  | ((with_reducible refine' g_kDGetI ?h509 ?l509 ?k509); (case' h509 => wtm_at "hp"); (case' l509 => wtm_at "kv"))
  | (with_reducible refine' g_dni ?_)
  | ((with_reducible refine' g_kDNi ?h510 ?k510); (case' h510 => wtm_at "hp"))
  | (with_reducible refine' g_lenSet ?_))
local macro_rules | `(tactic| wtm_at "kv") => `(tactic| first
  | exact kvO_get (by assumption)
  | exact rfl)

def Went (η : Hs) (m : Int) (η' : Hs) : Prop := η' = η ∨ ∃ z, z.m = m ∧ resH η (.tk z) = none ∧ 0 ≤ z.a ∧ η' = newH η (.tk z)
def spCarry (T : Tx K mg) : Sp := fun vs H Q _ => ∃ (H0 : Hp) (r h di dt : Addr) (ai ak : Int → Addr) (η : Hs) (p pm pp : Addr) (μ : Mt) (t lt lb : Addr) (to bc : List Cd) (cut : Option Nat) (m : Int) (n : Nat), vs = [.ref r, .ref h, .ref p, .ref t, cutO cut] ∧ H t = some (.tup [.ref lt, .ref lb]) ∧
  Cv K T.C_House T.C_Meter H0 H r h di dt ai ak η p pm pp μ lt lb to bc ∧ Jn n η m μ to bc ∧ m ∈ η.ms ∧ Hw n η ∧ Hin η.ms ai ak ∧ n < 900 ∧
  ∀ t' lt' lb' to' bc' η' μ' H', Mx [r, h, ak m, p, pm, pp] H H' → Cv K T.C_House T.C_Meter H0 H' r h di dt ai ak η' p pm pp μ' lt' lb' to' bc' → Went η m η' → Jn (n + 1) η' m μ' to' bc' → (lt' = lt ∨ H lt' = none) → (lb' = lb ∨ H lb' = none) → H' t' = some (.tup [.ref lt', .ref lb']) → Q (.ref t') H'
end
end Fk
namespace Fk
open PySem PySem.Spec PyProof.Rows L2
local macro_rules | `(tactic| wtm_at "ln") => `(tactic| first
  | omega
  | (simp only [List.length_cons, List.length_nil, List.length_map, List.length_append, List.length_replicate, List.length_take, List.length_drop, List.length_set]; omega)
  | (with_unfolding_all exact (by decide)))
local macro_rules | `(tactic| wtm_at "ar") => `(tactic| first
  | ((with_reducible show CMulW _ _); (refine' mulS ?_ ?_ <;> omega))
  | ((with_reducible show CDivW _ _); (refine' divS ?_ ?_ <;> omega))
  | ((with_reducible show CPow _ _); exact ⟨by decide, by decide, by decide⟩)
  | (show (0 : Int) < _; omega)
  | (with_unfolding_all exact (by decide)))
local macro_rules | `(tactic| wtm_at "at") => `(tactic| first
  | assumption
  | (refine' cl_atE ?e80 ?h80; (case' e80 => first | exact rfl | assumption); (case' h80 => wtm_at "ln"))
  | exact rfl)
local macro_rules | `(tactic| wtm_at "fr") => `(tactic| first
  | assumption
  | ((with_reducible refine' Mx.free0 ?m99 ?h99); (case' h99 => assumption); (case' m99 => wtm_at "mo")))
local macro_rules | `(tactic| wtm_at "hp") => `(tactic| first
  | assumption
  | ((with_reducible refine' Mx.get0 ?m1 ?h1); (case' m1 => assumption); (case' h1 => wtm_at "hp"))
  | ((with_reducible refine' Mx.get ?m2 ?n2 ?h2); (case' m2 => assumption); (case' n2 => wtm_at "nin"); (case' h2 => wtm_at "hp")))
local macro_rules | `(tactic| wtm_at "sl") => `(tactic| first
  | assumption
  | ((with_reducible refine' Mx.sqL0 ?m96 ?h96); (case' h96 => assumption); (case' m96 => wtm_at "mo"))
  | (refine' SqL.of ?h3; (case' h3 => wtm_at "hp"))
  | ((with_reducible refine' Mx.sqL0 ?m4 ?h4); (case' m4 => assumption); (case' h4 => wtm_at "sl"))
  | ((with_reducible refine' Mx.sqL ?m5 ?n5 ?h5); (case' m5 => assumption); (case' n5 => wtm_at "nin"); (case' h5 => wtm_at "sl")))
local macro_rules | `(tactic| wtm_at "st") => `(tactic| first
  | assumption
  | ((with_reducible refine' Mx.sqT0 ?m97 ?h97); (case' h97 => assumption); (case' m97 => wtm_at "mo"))
  | (refine' SqT.of ?h6; (case' h6 => wtm_at "hp"))
  | ((with_reducible refine' Mx.sqT0 ?m7 ?h7); (case' m7 => assumption); (case' h7 => wtm_at "st"))
  | ((with_reducible refine' Mx.sqT ?m8 ?n8 ?h8); (case' m8 => assumption); (case' n8 => wtm_at "nin"); (case' h8 => wtm_at "st")))
local macro_rules | `(tactic| wtm_at "mx") => `(tactic| first
  | assumption
  | exact Mx.refl
  | ((with_reducible refine' Mx.of0 ?h9); (case' h9 => assumption))
  | ((with_reducible refine' Mx.trans ?h10 ?m10); (case' m10 => first | assumption | ((with_reducible refine' Mx.of0 ?q10); (case' q10 => assumption))); (case' h10 => wtm_at "mx")))
local macro_rules | `(tactic| wtm_at "mo") => `(tactic| first
  | wtm_at "mx"
  | ((with_reducible refine' Mx.own ?m90 ?f90 ?k90); (case' k90 => assumption); (case' f90 => wtm_at "fr"); (case' m90 => wtm_at "mo"))
  | ((with_reducible refine' Mx.trans ?h91 ?m91); (case' m91 => first | assumption | ((with_reducible refine' Mx.of0 ?q91); (case' q91 => assumption))); (case' h91 => wtm_at "mo")))
local macro_rules | `(tactic| wtm_at "ne") => `(tactic| first
  | assumption
  | exact Ne.symm (by assumption)
  | ((with_reducible refine' ne_of_none ?x94 ?y94); (case' y94 => assumption); (case' x94 => wtm_at "hp"))
  | ((with_reducible refine' Ne.symm (ne_of_none ?x95 ?y95)); (case' y95 => assumption); (case' x95 => wtm_at "hp")))
local macro_rules | `(tactic| wtm_at "nin") => `(tactic| first
  | assumption
  | exact List.not_mem_nil
  | ((with_reducible refine' List.not_mem_cons_of_ne_of_not_mem ?h98 ?t98); (case' h98 => wtm_at "ne"); (case' t98 => wtm_at "nin")))
local macro_rules | `(tactic| wtm_at "g1") => `(tactic| first
  | ((with_reducible refine' g_var ?h11 ?k11); (case' h11 => exact rfl))
  | with_reducible refine' g_c ?_
  | with_reducible refine' g_op ?_
  | with_reducible refine' g_I0 ?_
  | ((with_reducible refine' g_I ?c12 ?k12); (case' c12 => wtm_at "ar"))
  | with_reducible refine' g_cons ?_
  | with_reducible refine' g_nil ?_
  | with_reducible refine' g_seq ?_
  | with_reducible refine' g_asg ?_
  | with_reducible refine' g_name ?_
  | with_reducible refine' g_ret ?_
  | with_reducible refine' g_if ?_
  | with_reducible refine' g_test ?_
  | with_reducible refine' g_tB ?_
  | with_reducible refine' g_bl ?_
  | ((with_reducible refine' g_eq ?h13 ?k13); (case' h13 => exact rfl))
  | ((with_reducible refine' g_ne ?h14 ?k14); (case' h14 => exact rfl))
  | with_reducible refine' g_CB ?_
  | with_reducible refine' g_call ?_
  | with_reducible refine' g_drop ?_
  | with_reducible refine' g_next ?_
  | with_reducible refine' g_not ?_
  | with_reducible refine' g_and ?_
  | with_reducible refine' g_or ?_
  | with_reducible refine' g_un ?_
  | with_reducible refine' g_U ?_
  | with_reducible refine' g_tup ?_
  | with_reducible refine' g_lst ?_
  | ((with_reducible refine' g_kNew ?h15 ?k15); (case' h15 => wtm_at "ln"); (case' k15 => intro _ _ _ _ _))
  | ((with_reducible refine' g_ixL ?h16 ?a16 ?k16); (case' h16 => wtm_at "sl"); (case' a16 => wtm_at "at"))
  | ((with_reducible refine' g_ixT ?h17 ?a17 ?k17); (case' h17 => wtm_at "st"); (case' a17 => wtm_at "at"))
  | with_reducible refine' g_slice ?_
  | with_reducible refine' g_part ?_
  | with_reducible refine' g_kPart ?_
  | with_reducible refine' g_noPart ?_
  | ((with_reducible refine' g_slL ?h18 ?k18); (case' h18 => wtm_at "sl"); (case' k18 => intro _ _ _ _ _))
  | ((with_reducible refine' g_cat ?h119 ?h219 ?l19 ?k19); (case' h119 => wtm_at "hp"); (case' h219 => wtm_at "hp"); (case' l19 => wtm_at "ln"); (case' k19 => intro _ _ _ _ _))
  | ((with_reducible refine' g_rep ?h120 ?h220 ?h320 ?l20 ?k20); (case' h120 => wtm_at "hp"); (case' h220 => wtm_at "ln"); (case' h320 => wtm_at "ln"); (case' l20 => wtm_at "ln"); (case' k20 => intro _ _ _ _ _))
  | ((with_reducible refine' g_append ?h21 ?l21 ?k21); (case' h21 => wtm_at "hp"); (case' l21 => wtm_at "ln"); (case' k21 => intro _ _ _))
  | ((with_reducible refine' g_kBM ?h22 ?k22); (case' h22 => wtm_at "sl"))
  | ((with_reducible refine' g_kBM0 ?h23 ?k23); (case' h23 => wtm_at "sl"))
  | ((with_reducible refine' g_kL ?h24 ?k24); (case' h24 => wtm_at "sl"))
  | ((with_reducible refine' g_kR1 ?h125 ?h225 ?k25); (case' h125 => wtm_at "ln"); (case' h225 => wtm_at "ln"))
  | ((with_reducible refine' g_kR2 ?h126 ?h226 ?h326 ?h426 ?k26); (case' h126 => wtm_at "ln"); (case' h226 => wtm_at "ln"); (case' h326 => wtm_at "ln"); (case' h426 => wtm_at "ln"))
  | ((with_reducible refine' g_lenL ?h27 ?k27); (case' h27 => wtm_at "sl"))
  | ((with_reducible refine' g_lenT ?h28 ?k28); (case' h28 => wtm_at "st"))
  | ((with_reducible refine' g_listL ?h29 ?k29); (case' h29 => wtm_at "sl"); (case' k29 => intro _ _ _ _ _))
  | ((with_reducible refine' g_tupleL ?h30 ?k30); (case' h30 => wtm_at "sl"); (case' k30 => intro _ _ _ _ _))
  | with_reducible refine' g_max ?_
  | with_reducible refine' g_min ?_
  | with_reducible refine' g_intB ?_
  | with_reducible refine' g_fld ?_
  | with_reducible refine' g_put ?_
  | with_reducible refine' g_dget ?_
  | with_reducible refine' g_isN ?_
  | with_reducible refine' g_notN ?_
  | with_reducible refine' g_ifE ?_
  | with_reducible refine' g_andV ?_
  | with_reducible refine' g_orV ?_
  | with_reducible refine' g_notV ?_
  | with_reducible refine' g_kIf ?_
  | with_reducible refine' g_chain ?_
  | with_reducible refine' g_kCh ?_
  | with_reducible refine' g_sub ?_
  | ((with_reducible refine' g_setI ?h92 ?e92 ?j92 ?k92); (case' h92 => wtm_at "hp"); (case' e92 => first | exact rfl | assumption); (case' j92 => wtm_at "ln"); (case' k92 => intro _ _ _))
  | ((with_reducible refine' g_setL ?h89 ?i89 ?k89); (case' h89 => wtm_at "hp"); (case' i89 => exact ixE rfl (by wtm_at "ln")); (case' k89 => intro _ _ _))
  | ((with_reducible refine' g_gtup ?h93 ?e93 ?k93); (case' h93 => wtm_at "st"); (case' e93 => exact rfl))
  | with_reducible refine' g_gcons ?_
  | with_reducible refine' g_gnil ?_
  | with_reducible refine' g_par ?_
  | with_reducible refine' g_kPar ?_
  | with_reducible refine' g_meth ?_
  | with_reducible refine' g_bm ?_
  | with_reducible refine' g_bm0 ?_
  | with_reducible refine' g_raise ?_
  | with_reducible refine' g_for ?_
  | with_reducible refine' g_iR1 ?_
  | with_reducible refine' g_iR2 ?_
  | with_reducible refine' g_iL ?_
  | with_reducible refine' g_lc ?_
  | with_reducible refine' g_retN ?_
  | with_reducible refine' g_no (b := false) rfl ?_
  | with_reducible refine' g_yes (b := true) rfl ?_)
local macro_rules | `(tactic| wtm_at "go") => `(tactic| repeat (wtm_at "g1"))
local macro_rules | `(tactic| wtm_at "gs") => `(tactic| repeat ((fail_if_success (with_reducible refine' g_ifE ?_)); wtm_at "g1"))
local macro_rules | `(tactic| wtm_at "gi") => `(tactic| repeat ((fail_if_success (with_reducible refine' g_if ?_)); wtm_at "g1"))
local macro_rules | `(tactic| wtm_at "gr") => `(tactic| repeat ((fail_if_success (with_reducible refine' g_ret ?_)); wtm_at "g1"))
local macro_rules | `(tactic| wtm_at "gq") => `(tactic| repeat ((fail_if_success (with_reducible refine' g_asg ?_)); wtm_at "g1"))

theorem stampR_ok {μ : Mt} {a : Int} (hu : μ.up = true) (h : 1 ≤ a ∧ a ≤ 99999) (hf : a ≤ bk μ 3) : stampR μ a = none := by
  have ha : amt a = true := amt_iff.mpr h
  simp [stampR, hu, ha]
  omega
section
variable {P : Program} {w : World} {K : PySem.W.Frag} {mg : Str → Option Value} {base : Heap}
local macro_rules | `(tactic| wtm_at "g1") => `(tactic| first
  | ((with_reducible refine' g_fOwn (by assumption) ?h201 ?k201); (case' h201 => wtm_at "hp"))
  | ((with_reducible refine' g_fKey (by assumption) ?h202 ?k202); (case' h202 => wtm_at "hp"))
  | ((with_reducible refine' g_fMem (by assumption) ?h203 ?k203); (case' h203 => wtm_at "hp"))
  | ((with_reducible refine' g_fPri (by assumption) ?h204 ?k204); (case' h204 => wtm_at "hp"))
  | ((with_reducible refine' g_fAwa (by assumption) ?h205 ?k205); (case' h205 => wtm_at "hp"))
  | ((with_reducible refine' g_pAwa (by assumption) ?h206 ?k206); (case' h206 => wtm_at "hp"); (case' k206 => intro _ _ _))
  | ((with_reducible refine' g_kMeth ?h207 ?l207 ?k207); (case' h207 => wtm_at "hp"); (case' l207 => exact rfl)))

local macro_rules | `(tactic| wtm_at "g1") => `(tactic| first
  | ((with_reducible refine' g_dNum ?h311 ?k311); (case' h311 => wtm_at "hp"))
  | ((with_reducible refine' g_dKey ?h312 ?k312); (case' h312 => wtm_at "hp"))
  | ((with_reducible refine' g_dCe ?h313 ?k313); (case' h313 => wtm_at "hp"))
  | ((with_reducible refine' g_dSt ?h314 ?k314); (case' h314 => wtm_at "hp"))
  | ((with_reducible refine' g_dUp ?h315 ?k315); (case' h315 => wtm_at "hp"))
  | ((with_reducible refine' g_kDGetS ?h301 ?l301 ?k301); (case' h301 => wtm_at "hp"); (case' l301 => exact rfl))
  | (with_reducible refine' g_dput ?_)
  | (with_reducible refine' g_iK ?_)
  | ((with_reducible refine' g_disp ?k305); (case' k305 => intro _ _ _ _ _))
  | (with_reducible refine' g_pcons ?_)
  | (with_reducible refine' g_pnil ?_)
  | ((with_reducible refine' g_kDisp ?h306 ?e306 ?f306 ?l306 ?k306); (case' h306 => wtm_at "hp"); (case' e306 => exact rfl); (case' f306 => exact rfl); (case' l306 => wtm_at "ln"); (case' k306 => intro _ _ _))
  | ((with_reducible refine' g_pUp ?h302 ?k302); (case' h302 => wtm_at "hp"); (case' k302 => intro _ _ _))
  | ((with_reducible refine' g_pSt ?h303 ?k303); (case' h303 => wtm_at "hp"); (case' k303 => intro _ _ _))
  | ((with_reducible refine' g_pCe ?h304 ?k304); (case' h304 => wtm_at "hp"); (case' k304 => intro _ _ _)))

local macro_rules | `(tactic| wtm_at "g1") => `(tactic| first
  | ((with_reducible refine' g_hKey (by assumption) ?h501 ?k501); (case' h501 => wtm_at "hp"))
  | ((with_reducible refine' g_hMon (by assumption) ?h502 ?k502); (case' h502 => wtm_at "hp"))
  | ((with_reducible refine' g_hSpe (by assumption) ?h503 ?k503); (case' h503 => wtm_at "hp"))
  | ((with_reducible refine' g_hIss (by assumption) ?h504 ?k504); (case' h504 => wtm_at "hp"))
  | ((with_reducible refine' g_hTak (by assumption) ?h505 ?k505); (case' h505 => wtm_at "hp"))
  | ((with_reducible refine' g_hpMon (by assumption) ?h506 ?k506); (case' h506 => wtm_at "hp"); (case' k506 => intro _ _ _))
  | ((with_reducible refine' g_hpSpe (by assumption) ?h507 ?k507); (case' h507 => wtm_at "hp"); (case' k507 => intro _ _ _))
  | ((with_reducible refine' g_kMeth ?h508 ?l508 ?k508); (case' h508 => wtm_at "hp"); (case' l508 => exact rfl))
  | ((with_reducible refine' g_kDGetI ?h509 ?l509 ?k509); (case' h509 => wtm_at "hp"); (case' l509 => wtm_at "kv"))
  | (with_reducible refine' g_dni ?_)
  | ((with_reducible refine' g_kDNi ?h510 ?k510); (case' h510 => wtm_at "hp"))
  | (with_reducible refine' g_lenSet ?_))
local macro_rules | `(tactic| wtm_at "kv") => `(tactic| first
  | exact kvO_get (by assumption)
  | exact rfl)

/-- the last code, as it is -/
def spLastBackX (T : Tx K mg) : Sp := fun vs H Q _ => ∃ (p pm pp : Addr) (μ : Mt), vs = [.ref p] ∧ MetAt K T.C_Meter H p pm pp μ ∧ Any μ.cells ∧ Bd μ.key ∧ Bd μ.num ∧ Bd (bk μ 6) ∧ Bd (bk μ 7) ∧ 0 < bk μ 6 ∧ ∀ t H', Mx [] H H' → H' t = some (.tup (mkCd μ.key μ.num (bk μ 6) (bk μ 7) 2).vs) → Q (.ref t) H'
theorem mt_Meter_last_backX (T : Tx K mg) : Me P w K mg base 3 T.C_Meter "last_back" (spLastBackX T) [] := by
  refine T.m_Meter_last_back.me T.cls_Meter sc_Meter_last_back (fun vs H Q E h => ?_) (fun cdv A outer s H vs Q E hr h => ?_)
  · obtain ⟨_, _, _, _, rfl, _⟩ := h
    rfl
  · obtain ⟨p, pm, pp, μ, rfl, ⟨⟨dx, ob⟩, me, pr, ne⟩, hA, b1, b2, b3, b4, b5, q⟩ := h
    have hl := hA.1
    have hb := bank_len hl
    refine ⟨_, (pss_cons (ps_set (i := 1) sc_Meter_last_back.nd rfl (Or.inl rfl) (q_call (c_bank_of T) hr (by decide) rfl (passes_call (takes_of rfl rfl rfl rfl) (fun _ _ _ _ h => h)) (pa_cons (fldK K (pv 0) rfl) pa_nil)))
      (pss_one (ps_ret (pe_ifExp (pt_cmpR op_gt (pe_ix (ixL K) (pv 1) (q_const T.g_BACKS rfl) (fun _ _ => rfl)) pe_int (by first | exact nomark _ | rfl)) (q_call (c_code_of T) hr (by decide) rfl (passes_call (takes_of rfl rfl rfl rfl) (fun _ _ _ _ h => h)) (pa_cons (fldK K (pv 0) rfl) (pa_cons (fldK K (pv 0) rfl) (pa_cons (pe_ix (ixL K) (pv 1) (q_const T.g_BACKS rfl) (fun _ _ => rfl)) (pa_cons (pe_ix (ixL K) (pv 1) (q_const T.g_GIVEN rfl) (fun _ _ => rfl)) (pa_cons (q_const T.g_BACK rfl) pa_nil)))))) pe_non)))), ?_⟩
    wtm_at "go"
    refine ⟨pm, μ.cells, rfl, by wtm_at "sl", by omega, fun _ b H1 n1 m1 e1 => ?_, fun z => absurd hA z⟩
    wtm_at "go"
    refine g_ite (fun e => ?_) (fun e => ?_)
    · wtm_at "go"
      refine ⟨_, _, _, _, _, rfl, b1, b2, b3, b4, (by omega), fun t H2 n2 m2 e2 => ?_⟩
      exact q _ _ (by wtm_at "mo") e2
    · have : ¬ 0 < bk μ 6 := by simpa [bk] using e
      exact absurd b5 this
theorem cdD_inj {z y : Cd} (h : cdD z = cdD y) : z = y := by
  cases z; cases y
  simp [cdD] at h
  obtain ⟨h1, h2, h3, h4⟩ := h
  subst h1 h2 h3 h4
  rfl
def spUse (T : Tx K mg) : Sp := fun vs H Q _ => ∃ (H0 : Hp) (r h di dt : Addr) (ai ak : Int → Addr) (η : Hs) (p pm pp : Addr) (μ : Mt) (t lt lb : Addr) (to bc : List Cd) (cut : Option Nat) (m : Int) (n : Nat), vs = [.ref r, .ref p, .ref t, cutO cut] ∧ H t = some (.tup [.ref lt, .ref lb]) ∧
  Cv K T.C_House T.C_Meter H0 H r h di dt ai ak η p pm pp μ lt lb to bc ∧ Jn n η m μ to bc ∧ m ∈ η.ms ∧ Hw n η ∧ n < 900 ∧
  ∀ t' lb' bc' μ' H', Mx [r, h, ak m, p, pm, pp] H H' → Cv K T.C_House T.C_Meter H0 H' r h di dt ai ak η p pm pp μ' lt lb' to bc' → Jn (n + 1) η m μ' to bc' → (lb' = lb ∨ H lb' = none) → H' t' = some (.tup [.ref lt, .ref lb']) → Q (.ref t') H'
end
end Fk
namespace Fk
open PySem PySem.Spec PyProof.Rows L2
local macro_rules | `(tactic| wtm_at "ln") => `(tactic| first
  | omega
  | (simp only [List.length_cons, List.length_nil, List.length_map, List.length_append, List.length_replicate, List.length_take, List.length_drop, List.length_set]; omega)
  | (with_unfolding_all exact (by decide)))
local macro_rules | `(tactic| wtm_at "ar") => `(tactic| first
  | ((with_reducible show CMulW _ _); (refine' mulS ?_ ?_ <;> omega))
  | ((with_reducible show CDivW _ _); (refine' divS ?_ ?_ <;> omega))
  | ((with_reducible show CPow _ _); exact ⟨by decide, by decide, by decide⟩)
  | (show (0 : Int) < _; omega)
  | (with_unfolding_all exact (by decide)))
local macro_rules | `(tactic| wtm_at "at") => `(tactic| first
  | assumption
  | (refine' cl_atE ?e80 ?h80; (case' e80 => first | exact rfl | assumption); (case' h80 => wtm_at "ln"))
  | exact rfl)
local macro_rules | `(tactic| wtm_at "fr") => `(tactic| first
  | assumption
  | ((with_reducible refine' Mx.free0 ?m99 ?h99); (case' h99 => assumption); (case' m99 => wtm_at "mo")))
local macro_rules | `(tactic| wtm_at "hp") => `(tactic| first
  | assumption
  | ((with_reducible refine' Mx.get0 ?m1 ?h1); (case' m1 => assumption); (case' h1 => wtm_at "hp"))
  | ((with_reducible refine' Mx.get ?m2 ?n2 ?h2); (case' m2 => assumption); (case' n2 => wtm_at "nin"); (case' h2 => wtm_at "hp")))
local macro_rules | `(tactic| wtm_at "sl") => `(tactic| first
  | assumption
  | ((with_reducible refine' Mx.sqL0 ?m96 ?h96); (case' h96 => assumption); (case' m96 => wtm_at "mo"))
  | (refine' SqL.of ?h3; (case' h3 => wtm_at "hp"))
  | ((with_reducible refine' Mx.sqL0 ?m4 ?h4); (case' m4 => assumption); (case' h4 => wtm_at "sl"))
  | ((with_reducible refine' Mx.sqL ?m5 ?n5 ?h5); (case' m5 => assumption); (case' n5 => wtm_at "nin"); (case' h5 => wtm_at "sl")))
local macro_rules | `(tactic| wtm_at "st") => `(tactic| first
  | assumption
  | ((with_reducible refine' Mx.sqT0 ?m97 ?h97); (case' h97 => assumption); (case' m97 => wtm_at "mo"))
  | (refine' SqT.of ?h6; (case' h6 => wtm_at "hp"))
  | ((with_reducible refine' Mx.sqT0 ?m7 ?h7); (case' m7 => assumption); (case' h7 => wtm_at "st"))
  | ((with_reducible refine' Mx.sqT ?m8 ?n8 ?h8); (case' m8 => assumption); (case' n8 => wtm_at "nin"); (case' h8 => wtm_at "st")))
local macro_rules | `(tactic| wtm_at "mx") => `(tactic| first
  | assumption
  | exact Mx.refl
  | ((with_reducible refine' Mx.of0 ?h9); (case' h9 => assumption))
  | ((with_reducible refine' Mx.trans ?h10 ?m10); (case' m10 => first | assumption | ((with_reducible refine' Mx.of0 ?q10); (case' q10 => assumption))); (case' h10 => wtm_at "mx")))
local macro_rules | `(tactic| wtm_at "mo") => `(tactic| first
  | wtm_at "mx"
  | ((with_reducible refine' Mx.own ?m90 ?f90 ?k90); (case' k90 => assumption); (case' f90 => wtm_at "fr"); (case' m90 => wtm_at "mo"))
  | ((with_reducible refine' Mx.trans ?h91 ?m91); (case' m91 => first | assumption | ((with_reducible refine' Mx.of0 ?q91); (case' q91 => assumption))); (case' h91 => wtm_at "mo")))
local macro_rules | `(tactic| wtm_at "ne") => `(tactic| first
  | assumption
  | exact Ne.symm (by assumption)
  | ((with_reducible refine' ne_of_none ?x94 ?y94); (case' y94 => assumption); (case' x94 => wtm_at "hp"))
  | ((with_reducible refine' Ne.symm (ne_of_none ?x95 ?y95)); (case' y95 => assumption); (case' x95 => wtm_at "hp")))
local macro_rules | `(tactic| wtm_at "nin") => `(tactic| first
  | assumption
  | exact List.not_mem_nil
  | ((with_reducible refine' List.not_mem_cons_of_ne_of_not_mem ?h98 ?t98); (case' h98 => wtm_at "ne"); (case' t98 => wtm_at "nin")))
local macro_rules | `(tactic| wtm_at "g1") => `(tactic| first
  | ((with_reducible refine' g_var ?h11 ?k11); (case' h11 => exact rfl))
  | with_reducible refine' g_c ?_
  | with_reducible refine' g_op ?_
  | with_reducible refine' g_I0 ?_
  | ((with_reducible refine' g_I ?c12 ?k12); (case' c12 => wtm_at "ar"))
  | with_reducible refine' g_cons ?_
  | with_reducible refine' g_nil ?_
  | with_reducible refine' g_seq ?_
  | with_reducible refine' g_asg ?_
  | with_reducible refine' g_name ?_
  | with_reducible refine' g_ret ?_
  | with_reducible refine' g_if ?_
  | with_reducible refine' g_test ?_
  | with_reducible refine' g_tB ?_
  | with_reducible refine' g_bl ?_
  | ((with_reducible refine' g_eq ?h13 ?k13); (case' h13 => exact rfl))
  | ((with_reducible refine' g_ne ?h14 ?k14); (case' h14 => exact rfl))
  | with_reducible refine' g_CB ?_
  | with_reducible refine' g_call ?_
  | with_reducible refine' g_drop ?_
  | with_reducible refine' g_next ?_
  | with_reducible refine' g_not ?_
  | with_reducible refine' g_and ?_
  | with_reducible refine' g_or ?_
  | with_reducible refine' g_un ?_
  | with_reducible refine' g_U ?_
  | with_reducible refine' g_tup ?_
  | with_reducible refine' g_lst ?_
  | ((with_reducible refine' g_kNew ?h15 ?k15); (case' h15 => wtm_at "ln"); (case' k15 => intro _ _ _ _ _))
  | ((with_reducible refine' g_ixL ?h16 ?a16 ?k16); (case' h16 => wtm_at "sl"); (case' a16 => wtm_at "at"))
  | ((with_reducible refine' g_ixT ?h17 ?a17 ?k17); (case' h17 => wtm_at "st"); (case' a17 => wtm_at "at"))
  | with_reducible refine' g_slice ?_
  | with_reducible refine' g_part ?_
  | with_reducible refine' g_kPart ?_
  | with_reducible refine' g_noPart ?_
  | ((with_reducible refine' g_slL ?h18 ?k18); (case' h18 => wtm_at "sl"); (case' k18 => intro _ _ _ _ _))
  | ((with_reducible refine' g_cat ?h119 ?h219 ?l19 ?k19); (case' h119 => wtm_at "hp"); (case' h219 => wtm_at "hp"); (case' l19 => wtm_at "ln"); (case' k19 => intro _ _ _ _ _))
  | ((with_reducible refine' g_rep ?h120 ?h220 ?h320 ?l20 ?k20); (case' h120 => wtm_at "hp"); (case' h220 => wtm_at "ln"); (case' h320 => wtm_at "ln"); (case' l20 => wtm_at "ln"); (case' k20 => intro _ _ _ _ _))
  | ((with_reducible refine' g_append ?h21 ?l21 ?k21); (case' h21 => wtm_at "hp"); (case' l21 => wtm_at "ln"); (case' k21 => intro _ _ _))
  | ((with_reducible refine' g_kBM ?h22 ?k22); (case' h22 => wtm_at "sl"))
  | ((with_reducible refine' g_kBM0 ?h23 ?k23); (case' h23 => wtm_at "sl"))
  | ((with_reducible refine' g_kL ?h24 ?k24); (case' h24 => wtm_at "sl"))
  | ((with_reducible refine' g_kR1 ?h125 ?h225 ?k25); (case' h125 => wtm_at "ln"); (case' h225 => wtm_at "ln"))
  | ((with_reducible refine' g_kR2 ?h126 ?h226 ?h326 ?h426 ?k26); (case' h126 => wtm_at "ln"); (case' h226 => wtm_at "ln"); (case' h326 => wtm_at "ln"); (case' h426 => wtm_at "ln"))
  | ((with_reducible refine' g_lenL ?h27 ?k27); (case' h27 => wtm_at "sl"))
  | ((with_reducible refine' g_lenT ?h28 ?k28); (case' h28 => wtm_at "st"))
  | ((with_reducible refine' g_listL ?h29 ?k29); (case' h29 => wtm_at "sl"); (case' k29 => intro _ _ _ _ _))
  | ((with_reducible refine' g_tupleL ?h30 ?k30); (case' h30 => wtm_at "sl"); (case' k30 => intro _ _ _ _ _))
  | with_reducible refine' g_max ?_
  | with_reducible refine' g_min ?_
  | with_reducible refine' g_intB ?_
  | with_reducible refine' g_fld ?_
  | with_reducible refine' g_put ?_
  | with_reducible refine' g_dget ?_
  | with_reducible refine' g_isN ?_
  | with_reducible refine' g_notN ?_
  | with_reducible refine' g_ifE ?_
  | with_reducible refine' g_andV ?_
  | with_reducible refine' g_orV ?_
  | with_reducible refine' g_notV ?_
  | with_reducible refine' g_kIf ?_
  | with_reducible refine' g_chain ?_
  | with_reducible refine' g_kCh ?_
  | with_reducible refine' g_sub ?_
  | ((with_reducible refine' g_setI ?h92 ?e92 ?j92 ?k92); (case' h92 => wtm_at "hp"); (case' e92 => first | exact rfl | assumption); (case' j92 => wtm_at "ln"); (case' k92 => intro _ _ _))
  | ((with_reducible refine' g_setL ?h89 ?i89 ?k89); (case' h89 => wtm_at "hp"); (case' i89 => exact ixE rfl (by wtm_at "ln")); (case' k89 => intro _ _ _))
  | ((with_reducible refine' g_gtup ?h93 ?e93 ?k93); (case' h93 => wtm_at "st"); (case' e93 => exact rfl))
  | with_reducible refine' g_gcons ?_
  | with_reducible refine' g_gnil ?_
  | with_reducible refine' g_par ?_
  | with_reducible refine' g_kPar ?_
  | with_reducible refine' g_meth ?_
  | with_reducible refine' g_bm ?_
  | with_reducible refine' g_bm0 ?_
  | with_reducible refine' g_raise ?_
  | with_reducible refine' g_for ?_
  | with_reducible refine' g_iR1 ?_
  | with_reducible refine' g_iR2 ?_
  | with_reducible refine' g_iL ?_
  | with_reducible refine' g_lc ?_
  | with_reducible refine' g_retN ?_
  | with_reducible refine' g_no (b := false) rfl ?_
  | with_reducible refine' g_yes (b := true) rfl ?_)
local macro_rules | `(tactic| wtm_at "go") => `(tactic| repeat (wtm_at "g1"))
local macro_rules | `(tactic| wtm_at "gs") => `(tactic| repeat ((fail_if_success (with_reducible refine' g_ifE ?_)); wtm_at "g1"))
local macro_rules | `(tactic| wtm_at "gi") => `(tactic| repeat ((fail_if_success (with_reducible refine' g_if ?_)); wtm_at "g1"))
local macro_rules | `(tactic| wtm_at "gr") => `(tactic| repeat ((fail_if_success (with_reducible refine' g_ret ?_)); wtm_at "g1"))
local macro_rules | `(tactic| wtm_at "gq") => `(tactic| repeat ((fail_if_success (with_reducible refine' g_asg ?_)); wtm_at "g1"))

/-! ### a list of new things -/
def updN {α : Type} (f : Nat → α) (i : Nat) (v : α) : Nat → α := fun j => if j = i then v else f j
theorem updN_same {α : Type} {f : Nat → α} {i : Nat} {v : α} : updN f i v i = v := if_pos rfl
theorem updN_ne {α : Type} {f : Nat → α} {i j : Nat} {v : α} (h : j ≠ i) : updN f i v j = f j := if_neg h
theorem refsN_upd {N i : Nat} {p : Nat → Addr} {a : Addr} (h : i < N) : (refsN N p).set i (.ref a) = refsN N (updN p i a) := by
  unfold refsN
  apply List.ext_getElem
  · rw [List.length_set, List.length_map, List.length_map]
  · intro k h1 h2
    rw [List.getElem_set, List.getElem_map, List.getElem_map, List.getElem_range]
    by_cases e : i = k
    · subst e; rw [if_pos rfl, updN_same]
    · rw [if_neg e, updN_ne fun z => e z.symm]
theorem g_lcObj {α : Type} [Inhabited α] {K : PySem.W.Frag} {σ : L2.St} {H : Hp} {Q : VK} {a : Addr} {xs : List V} {j : Nat} {te : TE} {vs : List Nat} (R : Nat → α → Hp → Prop) (fp : α → List Addr) (ad : α → Addr)
    (stab : ∀ i o S H H', R i o H → Mx S H H' → NoTup H S → (∀ x ∈ fp o, x ∉ S) → R i o H') (ext : ∀ i o H, R i o H → ∀ x ∈ fp o, H x ≠ none)
    (hw : ∀ x, wipe ((wipe σ vs).set j (some x)) vs = wipe σ vs) (hn : xs.length ≤ 1000) (hx : SqL K H a xs)
    (hs : ∀ (i : Nat) (x : V) (H' : Hp) (QN : VK), xs[i]? = some x → Mx [] H H' → (∀ o H3, (∀ y ∈ fp o, H' y = none) → Mx [] H' H3 → R i o H3 → QN (.ref (ad o)) H3) → te ((wipe σ vs).set j (some x)) H' QN)
    (hd : ∀ Dl H' (o : Nat → α), H Dl = none → Mx [] H H' → H' Dl = some (.lst (refsN xs.length fun j => ad (o j))) → (∀ j, j < xs.length → R j (o j) H' ∧ ∀ y ∈ fp (o j), H y = none ∧ y ≠ Dl) → (∀ j, j < xs.length → ∀ j', j' < xs.length → j ≠ j' → ∀ y ∈ fp (o j), y ∉ fp (o j')) → Q (.ref Dl) H') :
    kLc (gName j) tYes te vs σ Q (Itl K a) H := by
  intro Dl hDl
  refine lc_list (xs := xs) (fun i H' => i ≤ xs.length ∧ Mx [] H H' ∧ ∃ o : Nat → α, H' Dl = some (.lst (refsN i fun j => ad (o j))) ∧ (∀ j, j < i → R j (o j) H' ∧ ∀ y ∈ fp (o j), H y = none ∧ y ≠ Dl) ∧ (∀ j, j < i → ∀ j', j' < i → j ≠ j' → ∀ y ∈ fp (o j), y ∉ fp (o j')))
    ⟨Nat.zero_le _, .new hDl, fun _ => default, upd_same, fun _ h => absurd h (by omega), fun _ h => absurd h (by omega)⟩ (fun i H' _ hp => hp.2.1.sqL0 hx) (fun i x H' hxi hp => ?_) (fun H' hp => ?_)
  · obtain ⟨le, m, o, e, f, dis⟩ := hp
    have hlt := (List.getElem?_eq_some_iff.mp hxi).1
    refine ⟨hw _, ?_⟩
    refine g_tYesO ?_
    rw [if_pos rfl]
    refine hs i x H' _ hxi m fun q H3 fr m3 r3 => ?_
    have eD := m3.get0 e
    have ntD : NoTup H3 [Dl] := noTup1 eD
    have mU : ∀ v, Mx [Dl] H3 (upd H3 Dl v) := fun v => .put (by simp)
    refine ⟨refsN i fun j => ad (o j), eD, lineL (by rw [refsN_len]; omega), hlt, upd_Mx hDl (m.trans m3), updN o i q, ?_, fun k hk => ?_, fun k hk k' hk' hne => ?_⟩
    · rw [upd_same]
      unfold refsN
      rw [List.range_succ, List.map_append]
      have e1 : (List.range i).map (fun j => V.ref (ad (updN o i q j))) = (List.range i).map fun j => V.ref (ad (o j)) := by
        apply List.map_congr_left
        intro k hk
        rw [updN_ne (by have := List.mem_range.mp hk; omega)]
      rw [e1]
      simp [updN_same]
    · by_cases hz : k = i
      · subst hz
        rw [updN_same]
        have nD : ∀ y ∈ fp q, y ≠ Dl := fun y hy z => by have := fr y hy; rw [z, e] at this; cases this
        exact ⟨stab _ _ _ _ _ r3 (mU _) ntD fun y hy => by simpa using nD y hy, fun y hy => ⟨m.free0 (fr y hy), nD y hy⟩⟩
      · rw [updN_ne hz]
        obtain ⟨r, hf⟩ := f k (by omega)
        exact ⟨stab _ _ _ _ _ (stab _ _ _ _ _ r m3 noTup0 fun _ _ => by simp) (mU _) ntD fun y hy => by simpa using (hf y hy).2, hf⟩
    · by_cases h1 : k = i <;> by_cases h2 : k' = i
      · omega
      · subst h1
        rw [updN_same, updN_ne h2]
        exact fun y hy z => ext _ _ _ (f k' (by omega)).1 y z (fr y hy)
      · subst h2
        rw [updN_same, updN_ne h1]
        exact fun y hy z => ext _ _ _ (f k (by omega)).1 y hy (fr y z)
      · rw [updN_ne h1, updN_ne h2]
        exact dis k (by omega) k' (by omega) hne
  · obtain ⟨_, m, o, e, f, dis⟩ := hp
    exact hd Dl H' o hDl m e f dis
section
variable {P : Program} {w : World} {K : PySem.W.Frag} {mg : Str → Option Value} {base : Heap}
local macro_rules | `(tactic| wtm_at "g1") => `(tactic| first
  | ((with_reducible refine' g_fOwn (by assumption) ?h201 ?k201); (case' h201 => wtm_at "hp"))
  | ((with_reducible refine' g_fKey (by assumption) ?h202 ?k202); (case' h202 => wtm_at "hp"))
  | ((with_reducible refine' g_fMem (by assumption) ?h203 ?k203); (case' h203 => wtm_at "hp"))
  | ((with_reducible refine' g_fPri (by assumption) ?h204 ?k204); (case' h204 => wtm_at "hp"))
  | ((with_reducible refine' g_fAwa (by assumption) ?h205 ?k205); (case' h205 => wtm_at "hp"))
  | ((with_reducible refine' g_pAwa (by assumption) ?h206 ?k206); (case' h206 => wtm_at "hp"); (case' k206 => intro _ _ _))
  | ((with_reducible refine' g_kMeth ?h207 ?l207 ?k207); (case' h207 => wtm_at "hp"); (case' l207 => exact rfl)))

local macro_rules | `(tactic| wtm_at "g1") => `(tactic| first
  | ((with_reducible refine' g_dNum ?h311 ?k311); (case' h311 => wtm_at "hp"))
  | ((with_reducible refine' g_dKey ?h312 ?k312); (case' h312 => wtm_at "hp"))
  | ((with_reducible refine' g_dCe ?h313 ?k313); (case' h313 => wtm_at "hp"))
  | ((with_reducible refine' g_dSt ?h314 ?k314); (case' h314 => wtm_at "hp"))
  | ((with_reducible refine' g_dUp ?h315 ?k315); (case' h315 => wtm_at "hp"))
  | ((with_reducible refine' g_kDGetS ?h301 ?l301 ?k301); (case' h301 => wtm_at "hp"); (case' l301 => exact rfl))
  | (with_reducible refine' g_dput ?_)
  | (with_reducible refine' g_iK ?_)
  | ((with_reducible refine' g_disp ?k305); (case' k305 => intro _ _ _ _ _))
  | (with_reducible refine' g_pcons ?_)
  | (with_reducible refine' g_pnil ?_)
  | ((with_reducible refine' g_kDisp ?h306 ?e306 ?f306 ?l306 ?k306); (case' h306 => wtm_at "hp"); (case' e306 => exact rfl); (case' f306 => exact rfl); (case' l306 => wtm_at "ln"); (case' k306 => intro _ _ _))
  | ((with_reducible refine' g_pUp ?h302 ?k302); (case' h302 => wtm_at "hp"); (case' k302 => intro _ _ _))
  | ((with_reducible refine' g_pSt ?h303 ?k303); (case' h303 => wtm_at "hp"); (case' k303 => intro _ _ _))
  | ((with_reducible refine' g_pCe ?h304 ?k304); (case' h304 => wtm_at "hp"); (case' k304 => intro _ _ _)))

local macro_rules | `(tactic| wtm_at "g1") => `(tactic| first
  | ((with_reducible refine' g_hKey (by assumption) ?h501 ?k501); (case' h501 => wtm_at "hp"))
  | ((with_reducible refine' g_hMon (by assumption) ?h502 ?k502); (case' h502 => wtm_at "hp"))
  | ((with_reducible refine' g_hSpe (by assumption) ?h503 ?k503); (case' h503 => wtm_at "hp"))
  | ((with_reducible refine' g_hIss (by assumption) ?h504 ?k504); (case' h504 => wtm_at "hp"))
  | ((with_reducible refine' g_hTak (by assumption) ?h505 ?k505); (case' h505 => wtm_at "hp"))
  | ((with_reducible refine' g_hpMon (by assumption) ?h506 ?k506); (case' h506 => wtm_at "hp"); (case' k506 => intro _ _ _))
  | ((with_reducible refine' g_hpSpe (by assumption) ?h507 ?k507); (case' h507 => wtm_at "hp"); (case' k507 => intro _ _ _))
  | ((with_reducible refine' g_kMeth ?h508 ?l508 ?k508); (case' h508 => wtm_at "hp"); (case' l508 => exact rfl))
  | ((with_reducible refine' g_kDGetI ?h509 ?l509 ?k509); (case' h509 => wtm_at "hp"); (case' l509 => wtm_at "kv"))
  | (with_reducible refine' g_dni ?_)
  | ((with_reducible refine' g_kDNi ?h510 ?k510); (case' h510 => wtm_at "hp"))
  | (with_reducible refine' g_lenSet ?_))
local macro_rules | `(tactic| wtm_at "kv") => `(tactic| first
  | exact kvO_get (by assumption)
  | exact rfl)

/-- unlike numbers, in order -/
def spNumbers : Sp := fun vs H Q _ => ∃ (H0 : Hp) (r : Addr) (n : Int), vs = [.ref r, .int n] ∧ StAt K H0 H r ∧ (1 ≤ n ∧ n ≤ 4) ∧
  ∀ (l : Addr) (ms : List Int) (H' : Hp), (ms.length : Int) = n → ms.Nodup → ms.Pairwise (· ≤ ·) → (∀ m ∈ ms, 1 ≤ m ∧ m ≤ 9999) → H l = none → Mx [r] H H' → StAt K H0 H' r → H' l = some (.lst (ms.map V.int)) → Q (.ref l) H'
theorem c__law_numbers (T : Tx K mg) : Cl P w K mg base 2 "_law_numbers" (spNumbers (K := K)) [] := by
  refine T.f__law_numbers.cl sc__law_numbers (fun vs H Q E h => ?_) (fun cdv A outer s H vs Q E hr h => ?_)
  · obtain ⟨_, _, _, rfl, _⟩ := h
    rfl
  · obtain ⟨H0, r, n, rfl, S, hn, k⟩ := h
    refine ⟨_, (pss_cons (ps_set (i := 2) sc__law_numbers.nd rfl (Or.inr rfl) (pe_op op_add pe_int (q_call (c__law_drawn T) hr (by decide) rfl (passes_call (takes_of rfl rfl rfl rfl) (fun _ _ _ _ h => h)) (pa_cons (pv 0) (pa_cons pe_int pa_nil)))))
      (pss_cons (ps_set (i := 3) sc__law_numbers.nd rfl (Or.inr rfl) (pe_op op_add pe_int (q_call (c__law_drawn T) hr (by decide) rfl (passes_call (takes_of rfl rfl rfl rfl) (fun _ _ _ _ h => h)) (pa_cons (pv 0) (pa_cons pe_int pa_nil)))))
      (pss_one (ps_ret (pe_lc (own := [("_law_k", 4)]) (g := gName 4) rfl sc__law_numbers.nd (pi_range1 rfl T.n_range (pa_cons (pv 1) pa_nil)) (blkOk_by (own := [("_law_k", 4)]) (N := N__law_numbers) (sc := defScope s__law_numbers) (by decide +kernel)) (fun _ _ _ _ _ => pg_name (i := 4) sc__law_numbers.nd rfl (by first | exact Or.inl rfl | exact Or.inr rfl)) (fun _ _ _ _ _ => pts_nil) (fun _ _ _ _ _ => (pe_op op_add (pv 2) (pe_op op_mulW (pv 4) (pv 3))))))))), ?_⟩
    wtm_at "go"
    refine ⟨H0, r, 9000, rfl, S, by omega, by omega, fun x H1 x0 x1 m1 S1 => ?_⟩
    wtm_at "go"
    refine ⟨H0, r, 300, rfl, S1, by omega, by omega, fun y H2 y0 y1 m2 S2 => ?_⟩
    have c2 := m1.trans m2
    wtm_at "go"
    refine g_lcR (fun i => some (.int ((1 + x) + (i : Int) * (1 + y)))) (by intro x; rfl) (by omega) (fun i H' QN hi m hQ => ?_) (fun Dl H3 hD m3 eD => ?_)
    · refine g_yesH ?_
      rw [show (0 : Int) + (i : Int) = (i : Int) by omega]
      wtm_at "go"
      exact hQ _ _ Mx.refl rfl
    · have el : (List.range n.toNat).filterMap (fun (i : Nat) => some (V.int ((1 + x) + (i : Int) * (1 + y)))) = ((List.range n.toNat).map fun (i : Nat) => (1 + x) + (i : Int) * (1 + y)).map V.int := by
        rw [List.map_map]
        show List.filterMap (some ∘ (V.int ∘ fun (i : Nat) => (1 + x) + (i : Int) * (1 + y))) _ = _
        rw [List.filterMap_eq_map]
      rw [el] at eD
      have inj : ∀ i j : Nat, i < j → (1 + x) + (i : Int) * (1 + y) < (1 + x) + (j : Int) * (1 + y) := fun i j h => by
        have : (i : Int) * (1 + y) < (j : Int) * (1 + y) := Int.mul_lt_mul_of_pos_right (by omega) (by omega)
        omega
      refine k Dl _ H3 (by rw [List.length_map, List.length_range]; omega) ?_ ?_ (fun m hm => ?_) (c2.free hD (by simp; exact S2.new hD)) (c2.trans m3.of0) (S2.mx0 m3) eD
      · refine List.Pairwise.map _ (R := fun a b : Nat => a < b) (fun a b h => ?_) List.pairwise_lt_range
        exact Int.ne_of_lt (inj a b h)
      · refine List.Pairwise.map _ (R := fun a b : Nat => a < b) (fun a b h => ?_) List.pairwise_lt_range
        exact Int.le_of_lt (inj a b h)
      · obtain ⟨i, hi, rfl⟩ := List.mem_map.mp hm
        have hi4 : i < 4 := by have := List.mem_range.mp hi; omega
        have : (i : Int) * (1 + y) ≤ 3 * 300 := Int.mul_le_mul (by omega) (by omega) (by omega) (by omega)
        have : 0 ≤ (i : Int) * (1 + y) := Int.mul_nonneg (by omega) (by omega)
        omega
end
end Fk
namespace Fk
open PySem PySem.Spec PyProof.Rows L2
local macro_rules | `(tactic| wtm_at "ln") => `(tactic| first
  | omega
  | (simp only [List.length_cons, List.length_nil, List.length_map, List.length_append, List.length_replicate, List.length_take, List.length_drop, List.length_set]; omega)
  | (with_unfolding_all exact (by decide)))
local macro_rules | `(tactic| wtm_at "ar") => `(tactic| first
  | ((with_reducible show CMulW _ _); (refine' mulS ?_ ?_ <;> omega))
  | ((with_reducible show CDivW _ _); (refine' divS ?_ ?_ <;> omega))
  | ((with_reducible show CPow _ _); exact ⟨by decide, by decide, by decide⟩)
  | (show (0 : Int) < _; omega)
  | (with_unfolding_all exact (by decide)))
local macro_rules | `(tactic| wtm_at "at") => `(tactic| first
  | assumption
  | (refine' cl_atE ?e80 ?h80; (case' e80 => first | exact rfl | assumption); (case' h80 => wtm_at "ln"))
  | exact rfl)
local macro_rules | `(tactic| wtm_at "fr") => `(tactic| first
  | assumption
  | ((with_reducible refine' Mx.free0 ?m99 ?h99); (case' h99 => assumption); (case' m99 => wtm_at "mo")))
local macro_rules | `(tactic| wtm_at "hp") => `(tactic| first
  | assumption
  | ((with_reducible refine' Mx.get0 ?m1 ?h1); (case' m1 => assumption); (case' h1 => wtm_at "hp"))
  | ((with_reducible refine' Mx.get ?m2 ?n2 ?h2); (case' m2 => assumption); (case' n2 => wtm_at "nin"); (case' h2 => wtm_at "hp")))
local macro_rules | `(tactic| wtm_at "sl") => `(tactic| first
  | assumption
  | ((with_reducible refine' Mx.sqL0 ?m96 ?h96); (case' h96 => assumption); (case' m96 => wtm_at "mo"))
  | (refine' SqL.of ?h3; (case' h3 => wtm_at "hp"))
  | ((with_reducible refine' Mx.sqL0 ?m4 ?h4); (case' m4 => assumption); (case' h4 => wtm_at "sl"))
  | ((with_reducible refine' Mx.sqL ?m5 ?n5 ?h5); (case' m5 => assumption); (case' n5 => wtm_at "nin"); (case' h5 => wtm_at "sl")))
local macro_rules | `(tactic| wtm_at "st") => `(tactic| first
  | assumption
  | ((with_reducible refine' Mx.sqT0 ?m97 ?h97); (case' h97 => assumption); (case' m97 => wtm_at "mo"))
  | (refine' SqT.of ?h6; (case' h6 => wtm_at "hp"))
  | ((with_reducible refine' Mx.sqT0 ?m7 ?h7); (case' m7 => assumption); (case' h7 => wtm_at "st"))
  | ((with_reducible refine' Mx.sqT ?m8 ?n8 ?h8); (case' m8 => assumption); (case' n8 => wtm_at "nin"); (case' h8 => wtm_at "st")))
local macro_rules | `(tactic| wtm_at "mx") => `(tactic| first
  | assumption
  | exact Mx.refl
  | ((with_reducible refine' Mx.of0 ?h9); (case' h9 => assumption))
  | ((with_reducible refine' Mx.trans ?h10 ?m10); (case' m10 => first | assumption | ((with_reducible refine' Mx.of0 ?q10); (case' q10 => assumption))); (case' h10 => wtm_at "mx")))
local macro_rules | `(tactic| wtm_at "mo") => `(tactic| first
  | wtm_at "mx"
  | ((with_reducible refine' Mx.own ?m90 ?f90 ?k90); (case' k90 => assumption); (case' f90 => wtm_at "fr"); (case' m90 => wtm_at "mo"))
  | ((with_reducible refine' Mx.trans ?h91 ?m91); (case' m91 => first | assumption | ((with_reducible refine' Mx.of0 ?q91); (case' q91 => assumption))); (case' h91 => wtm_at "mo")))
local macro_rules | `(tactic| wtm_at "ne") => `(tactic| first
  | assumption
  | exact Ne.symm (by assumption)
  | ((with_reducible refine' ne_of_none ?x94 ?y94); (case' y94 => assumption); (case' x94 => wtm_at "hp"))
  | ((with_reducible refine' Ne.symm (ne_of_none ?x95 ?y95)); (case' y95 => assumption); (case' x95 => wtm_at "hp")))
local macro_rules | `(tactic| wtm_at "nin") => `(tactic| first
  | assumption
  | exact List.not_mem_nil
  | ((with_reducible refine' List.not_mem_cons_of_ne_of_not_mem ?h98 ?t98); (case' h98 => wtm_at "ne"); (case' t98 => wtm_at "nin")))
local macro_rules | `(tactic| wtm_at "g1") => `(tactic| first
  | ((with_reducible refine' g_var ?h11 ?k11); (case' h11 => exact rfl))
  | with_reducible refine' g_c ?_
  | with_reducible refine' g_op ?_
  | with_reducible refine' g_I0 ?_
  | ((with_reducible refine' g_I ?c12 ?k12); (case' c12 => wtm_at "ar"))
  | with_reducible refine' g_cons ?_
  | with_reducible refine' g_nil ?_
  | with_reducible refine' g_seq ?_
  | with_reducible refine' g_asg ?_
  | with_reducible refine' g_name ?_
  | with_reducible refine' g_ret ?_
  | with_reducible refine' g_if ?_
  | with_reducible refine' g_test ?_
  | with_reducible refine' g_tB ?_
  | with_reducible refine' g_bl ?_
  | ((with_reducible refine' g_eq ?h13 ?k13); (case' h13 => exact rfl))
  | ((with_reducible refine' g_ne ?h14 ?k14); (case' h14 => exact rfl))
  | with_reducible refine' g_CB ?_
  | with_reducible refine' g_call ?_
  | with_reducible refine' g_drop ?_
  | with_reducible refine' g_next ?_
  | with_reducible refine' g_not ?_
  | with_reducible refine' g_and ?_
  | with_reducible refine' g_or ?_
  | with_reducible refine' g_un ?_
  | with_reducible refine' g_U ?_
  | with_reducible refine' g_tup ?_
  | with_reducible refine' g_lst ?_
  | ((with_reducible refine' g_kNew ?h15 ?k15); (case' h15 => wtm_at "ln"); (case' k15 => intro _ _ _ _ _))
  | ((with_reducible refine' g_ixL ?h16 ?a16 ?k16); (case' h16 => wtm_at "sl"); (case' a16 => wtm_at "at"))
  | ((with_reducible refine' g_ixT ?h17 ?a17 ?k17); (case' h17 => wtm_at "st"); (case' a17 => wtm_at "at"))
  | with_reducible refine' g_slice ?_
  | with_reducible refine' g_part ?_
  | with_reducible refine' g_kPart ?_
  | with_reducible refine' g_noPart ?_
  | ((with_reducible refine' g_slL ?h18 ?k18); (case' h18 => wtm_at "sl"); (case' k18 => intro _ _ _ _ _))
  | ((with_reducible refine' g_cat ?h119 ?h219 ?l19 ?k19); (case' h119 => wtm_at "hp"); (case' h219 => wtm_at "hp"); (case' l19 => wtm_at "ln"); (case' k19 => intro _ _ _ _ _))
  | ((with_reducible refine' g_rep ?h120 ?h220 ?h320 ?l20 ?k20); (case' h120 => wtm_at "hp"); (case' h220 => wtm_at "ln"); (case' h320 => wtm_at "ln"); (case' l20 => wtm_at "ln"); (case' k20 => intro _ _ _ _ _))
  | ((with_reducible refine' g_append ?h21 ?l21 ?k21); (case' h21 => wtm_at "hp"); (case' l21 => wtm_at "ln"); (case' k21 => intro _ _ _))
  | ((with_reducible refine' g_kBM ?h22 ?k22); (case' h22 => wtm_at "sl"))
  | ((with_reducible refine' g_kBM0 ?h23 ?k23); (case' h23 => wtm_at "sl"))
  | ((with_reducible refine' g_kL ?h24 ?k24); (case' h24 => wtm_at "sl"))
  | ((with_reducible refine' g_kR1 ?h125 ?h225 ?k25); (case' h125 => wtm_at "ln"); (case' h225 => wtm_at "ln"))
  | ((with_reducible refine' g_kR2 ?h126 ?h226 ?h326 ?h426 ?k26); (case' h126 => wtm_at "ln"); (case' h226 => wtm_at "ln"); (case' h326 => wtm_at "ln"); (case' h426 => wtm_at "ln"))
  | ((with_reducible refine' g_lenL ?h27 ?k27); (case' h27 => wtm_at "sl"))
  | ((with_reducible refine' g_lenT ?h28 ?k28); (case' h28 => wtm_at "st"))
  | ((with_reducible refine' g_listL ?h29 ?k29); (case' h29 => wtm_at "sl"); (case' k29 => intro _ _ _ _ _))
  | ((with_reducible refine' g_tupleL ?h30 ?k30); (case' h30 => wtm_at "sl"); (case' k30 => intro _ _ _ _ _))
  | with_reducible refine' g_max ?_
  | with_reducible refine' g_min ?_
  | with_reducible refine' g_intB ?_
  | with_reducible refine' g_fld ?_
  | with_reducible refine' g_put ?_
  | with_reducible refine' g_dget ?_
  | with_reducible refine' g_isN ?_
  | with_reducible refine' g_notN ?_
  | with_reducible refine' g_ifE ?_
  | with_reducible refine' g_andV ?_
  | with_reducible refine' g_orV ?_
  | with_reducible refine' g_notV ?_
  | with_reducible refine' g_kIf ?_
  | with_reducible refine' g_chain ?_
  | with_reducible refine' g_kCh ?_
  | with_reducible refine' g_sub ?_
  | ((with_reducible refine' g_setI ?h92 ?e92 ?j92 ?k92); (case' h92 => wtm_at "hp"); (case' e92 => first | exact rfl | assumption); (case' j92 => wtm_at "ln"); (case' k92 => intro _ _ _))
  | ((with_reducible refine' g_setL ?h89 ?i89 ?k89); (case' h89 => wtm_at "hp"); (case' i89 => exact ixE rfl (by wtm_at "ln")); (case' k89 => intro _ _ _))
  | ((with_reducible refine' g_gtup ?h93 ?e93 ?k93); (case' h93 => wtm_at "st"); (case' e93 => exact rfl))
  | with_reducible refine' g_gcons ?_
  | with_reducible refine' g_gnil ?_
  | with_reducible refine' g_par ?_
  | with_reducible refine' g_kPar ?_
  | with_reducible refine' g_meth ?_
  | with_reducible refine' g_bm ?_
  | with_reducible refine' g_bm0 ?_
  | with_reducible refine' g_raise ?_
  | with_reducible refine' g_for ?_
  | with_reducible refine' g_iR1 ?_
  | with_reducible refine' g_iR2 ?_
  | with_reducible refine' g_iL ?_
  | with_reducible refine' g_lc ?_
  | with_reducible refine' g_retN ?_
  | with_reducible refine' g_no (b := false) rfl ?_
  | with_reducible refine' g_yes (b := true) rfl ?_)
local macro_rules | `(tactic| wtm_at "go") => `(tactic| repeat (wtm_at "g1"))
local macro_rules | `(tactic| wtm_at "gs") => `(tactic| repeat ((fail_if_success (with_reducible refine' g_ifE ?_)); wtm_at "g1"))
local macro_rules | `(tactic| wtm_at "gi") => `(tactic| repeat ((fail_if_success (with_reducible refine' g_if ?_)); wtm_at "g1"))
local macro_rules | `(tactic| wtm_at "gr") => `(tactic| repeat ((fail_if_success (with_reducible refine' g_ret ?_)); wtm_at "g1"))
local macro_rules | `(tactic| wtm_at "gq") => `(tactic| repeat ((fail_if_success (with_reducible refine' g_asg ?_)); wtm_at "g1"))

/-! ### what a deed does to the bank, told whole -/
theorem print_none (μ : Mt) : (printM μ none).1 = true ∧ (printM μ none).2.up = μ.up := by
  unfold printM
  cases owed μ with
  | none => exact ⟨rfl, rfl⟩
  | some s => exact ⟨rfl, rfl⟩
theorem up_none (μ : Mt) : (upM μ none).2.up = true := by
  unfold upM
  rw [if_pos (print_none μ).1]
theorem up_bank (μ : Mt) (cut : Option Nat) (i : Nat) : bk (upM μ cut).2 i = bk μ i := by
  unfold upM
  split
  · exact (print_bk μ cut i).1
  · exact (print_bk μ cut i).1
theorem lastB_up (μ : Mt) (cut : Option Nat) : lastB (upM μ cut).2 = lastB μ := by
  have h1 : (upM μ cut).2.num = μ.num ∧ (upM μ cut).2.key = μ.key := by
    unfold upM
    split
    · exact (print_bk μ cut 0).2
    · exact (print_bk μ cut 0).2
  unfold lastB
  rw [up_bank, up_bank, h1.1, h1.2]
theorem top_bank {μ : Mt} {z : Cd} (hA : Any μ.cells) (cut : Option Nat) : (cut ≠ none ∧ ∀ i, bk (topM μ z cut).2 i = bk μ i) ∨ (bk (topM μ z cut).2 2 = bk μ 2 ∧ bk (topM μ z cut).2 3 = bk μ 3 + z.a ∧ bk (topM μ z cut).2 4 = bk μ 4 + z.a ∧ (topM μ z cut).2.up = μ.up) := by
  have hl := hA.1
  unfold topM
  rcases writeM_cases μ (topChs μ z) cut with ⟨k, ek, hk, e⟩ | ⟨_, e⟩
  · refine .inl ⟨by rw [ek]; simp, fun i => ?_⟩
    rw [e]
    show bk { μ with cells := wr μ.cells (stepsOf μ.cells (topChs μ z)) k, up := false } i = _
    unfold bk
    rw [bank_wr_cut hA hk]
  · rw [e]
    have h : ∀ i, bk { μ with cells := wr μ.cells (stepsOf μ.cells (topChs μ z)) 11 } i = cl (news μ.cells (topChs μ z)) i := fun i => bk_wr hA (topChs_ok μ z) i
    refine .inr ⟨?_, ?_, ?_, rfl⟩
    · show bk { μ with cells := wr μ.cells (stepsOf μ.cells (topChs μ z)) 11 } 2 = _
      rw [h, news_out (by simp [topChs]) (by decide)]
      rfl
    · show bk { μ with cells := wr μ.cells (stepsOf μ.cells (topChs μ z)) 11 } 3 = _
      rw [h]
      exact news_at hl (l := []) (r := [(4, bk μ 4 + z.a), (5, z.c)]) rfl (by simp) (by decide)
    · show bk { μ with cells := wr μ.cells (stepsOf μ.cells (topChs μ z)) 11 } 4 = _
      rw [h]
      exact news_at hl (l := [(3, bk μ 3 + z.a)]) (r := [(5, z.c)]) rfl (by simp) (by decide)
theorem back_bank {μ : Mt} {a : Int} (hA : Any μ.cells) (cut : Option Nat) : (cut ≠ none ∧ ∀ i, bk (backM μ a cut).2 i = bk μ i) ∨ (bk (backM μ a cut).2 2 = bk μ 2 ∧ bk (backM μ a cut).2 3 = bk μ 3 - a ∧ bk (backM μ a cut).2 4 = bk μ 4 - a ∧ bk (backM μ a cut).2 7 = a ∧ (backM μ a cut).2.up = μ.up) := by
  have hl := hA.1
  unfold backM
  rcases writeM_cases μ (backChs μ a) cut with ⟨k, ek, hk, e⟩ | ⟨_, e⟩
  · refine .inl ⟨by rw [ek]; simp, fun i => ?_⟩
    rw [e]
    show bk { μ with cells := wr μ.cells (stepsOf μ.cells (backChs μ a)) k, up := false } i = _
    unfold bk
    rw [bank_wr_cut hA hk]
  · rw [e]
    have h : ∀ i, bk { μ with cells := wr μ.cells (stepsOf μ.cells (backChs μ a)) 11 } i = cl (news μ.cells (backChs μ a)) i := fun i => bk_wr hA (backChs_ok μ a) i
    refine .inr ⟨?_, ?_, ?_, ?_, rfl⟩
    · show bk { μ with cells := wr μ.cells (stepsOf μ.cells (backChs μ a)) 11 } 2 = _
      rw [h, news_out (by simp [backChs]) (by decide)]
      rfl
    · show bk { μ with cells := wr μ.cells (stepsOf μ.cells (backChs μ a)) 11 } 3 = _
      rw [h]
      exact news_at hl (l := []) (r := [(4, bk μ 4 - a), (6, bk μ 6 + 1), (7, a)]) rfl (by simp) (by decide)
    · show bk { μ with cells := wr μ.cells (stepsOf μ.cells (backChs μ a)) 11 } 4 = _
      rw [h]
      exact news_at hl (l := [(3, bk μ 3 - a)]) (r := [(6, bk μ 6 + 1), (7, a)]) rfl (by simp) (by decide)
    · show bk { μ with cells := wr μ.cells (stepsOf μ.cells (backChs μ a)) 11 } 7 = _
      rw [h]
      exact news_at hl (l := [(3, bk μ 3 - a), (4, bk μ 4 - a), (6, bk μ 6 + 1)]) (r := []) rfl (by simp) (by decide)
theorem stamp_bank {μ : Mt} {a : Int} (hA : Any μ.cells) : bk (stampM μ a none).2 3 = bk μ 3 - a ∧ (stampM μ a none).2.up = μ.up := by
  have hl := hA.1
  have e : writeM μ (stampChs μ a) none = (some none, { μ with cells := wr μ.cells (stepsOf μ.cells (stampChs μ a)) 11 }) := rfl
  have h : ∀ i, bk { μ with cells := wr μ.cells (stepsOf μ.cells (stampChs μ a)) 11 } i = cl (news μ.cells (stampChs μ a)) i := fun i => bk_wr hA (stampChs_ok μ a) i
  have p := print_none { μ with cells := wr μ.cells (stepsOf μ.cells (stampChs μ a)) 11 }
  have q := print_bk { μ with cells := wr μ.cells (stepsOf μ.cells (stampChs μ a)) 11 } none 3
  unfold stampM
  rw [e]
  show bk (if (printM { μ with cells := wr μ.cells (stepsOf μ.cells (stampChs μ a)) 11 } none).1 = true then _ else _ : PyData × Mt).2 3 = _ ∧ (if (printM { μ with cells := wr μ.cells (stepsOf μ.cells (stampChs μ a)) 11 } none).1 = true then _ else _ : PyData × Mt).2.up = _
  rw [if_pos p.1]
  refine ⟨?_, p.2⟩
  show bk (printM _ none).2 3 = _
  rw [q.1, h]
  exact news_at hl (l := [(2, bk μ 2 + a)]) (r := [(8, bk μ 8 + 1), (9, a)]) rfl (by simp) (by decide)
/-! ### codes that are none -/
theorem sgn_kind {k m c a : Int} (hk : 0 ≤ k ∧ k ≤ 999981) : sgn k m c a 2 ≠ sgn k m c a 1 := by
  have e : (k + 1) * (17 * m + 31 * c + 53 * a + 2) = (k + 1) * (17 * m + 31 * c + 53 * a + 1) + (k + 1) := by
    rw [show 17 * m + 31 * c + 53 * a + 2 = (17 * m + 31 * c + 53 * a + 1) + 1 by omega, Int.mul_add, Int.mul_one]
  unfold sgn
  rw [e]
  generalize (k + 1) * (17 * m + 31 * c + 53 * a + 1) = y
  omega
theorem bad_kind {k m c a m' c' : Int} (hk : 0 ≤ k ∧ k ≤ 999981) : good k (mkCd k m c a 2) m' c' 1 = false ∧ good k (mkCd k m c a 1) m' c' 2 = false := by
  have h := sgn_kind (m := m) (c := c) (a := a) hk
  constructor
  · by_cases h1 : m = m'
    · by_cases h2 : c = c'
      · subst h1 h2
        simp [good, mkCd, h]
      · simp [good, mkCd, h2]
    · simp [good, mkCd, h1]
  · by_cases h1 : m = m'
    · by_cases h2 : c = c'
      · subst h1 h2
        simp [good, mkCd, h.symm]
      · simp [good, mkCd, h2]
    · simp [good, mkCd, h1]
theorem bad_meter {k m' c' kd : Int} {z : Cd} (h : z.m ≠ m') : good k z m' c' kd = false := by simp [good, h]
theorem bad_count {k m' c' kd : Int} {z : Cd} (h : z.c ≠ c') : good k z m' c' kd = false := by simp [good, h]
theorem top_no {μ : Mt} {z : Cd} (hu : μ.up = true) (h : good μ.key z μ.num (bk μ 5 + 1) 1 = false) : topR μ z = some .code := by simp [topR, hu, h]
theorem tk_no {η : Hs} {z : Cd} (h : good η.key z z.m ((η.tkn z.m).length + 1) 2 = false) : resH η (.tk z) = some .code := by simp [resH, h]
/-! ### a turn of topping up -/
theorem Jn.topU {n : Nat} {η : Hs} {m : Int} {μ : Mt} {to bc : List Cd} {z : Cd} (J : Jn n η m μ (z :: to) bc) (hu : μ.up = true) (cut : Option Nat) :
    (cut ≠ none ∧ (∀ i, bk (topM μ z cut).2 i = bk μ i) ∧ Jn (n + 1) η m (topM μ z cut).2 (z :: to) bc) ∨ (bk (topM μ z cut).2 2 = bk μ 2 ∧ bk (topM μ z cut).2 3 = bk μ 3 + z.a ∧ bk (topM μ z cut).2 4 = bk μ 4 + z.a ∧ (topM μ z cut).2.up = true ∧ Jn (n + 1) η m (topM μ z cut).2 to bc) := by
  have ha := J.tr.1.2
  rcases (J.top hu).2 cut with ⟨ne, J1⟩ | ⟨eq, J1⟩
  · rcases top_bank (z := z) J.wf.any cut with ⟨_, h⟩ | ⟨h1, h2, h3, h4⟩
    · exact absurd (h 4) ne
    · exact .inr ⟨h1, h2, h3, h4.trans hu, J1⟩
  · rcases top_bank (z := z) J.wf.any cut with ⟨hc, h⟩ | ⟨h1, h2, h3, h4⟩
    · exact .inl ⟨hc, h, J1⟩
    · omega
theorem Jn.backU {n : Nat} {η : Hs} {m a : Int} {μ : Mt} {to bc : List Cd} (J : Jn n η m μ to bc) (hu : μ.up = true) (ha : 1 ≤ a ∧ a ≤ 99999) (hf : a ≤ bk μ 3) (cut : Option Nat) :
    (cut ≠ none ∧ (∀ i, bk (backM μ a cut).2 i = bk μ i) ∧ Jn (n + 1) η m (backM μ a cut).2 to bc) ∨
    (bk (backM μ a cut).2 2 = bk μ 2 ∧ bk (backM μ a cut).2 3 = bk μ 3 - a ∧ bk (backM μ a cut).2 4 = bk μ 4 - a ∧ (backM μ a cut).2.up = true ∧ ∃ z, lastB (backM μ a cut).2 = cdD z ∧ z.a = a ∧ Jn (n + 1) η m (backM μ a cut).2 to (bc ++ [z])) := by
  have hr := stampR_ok hu ha hf
  rcases J.back hr cut with ⟨ne, z, hz, J1⟩ | ⟨eq, J1⟩
  · rcases back_bank (a := a) J.wf.any cut with ⟨_, h⟩ | ⟨h1, h2, h3, h4, h5⟩
    · exact absurd (h 3) ne
    · refine .inr ⟨h1, h2, h3, h5.trans hu, z, hz, ?_, J1⟩
      have p6 : 0 < bk (backM μ a cut).2 6 := by
        have := J1.b6
        simp at this
        omega
      unfold lastB at hz
      rw [if_pos p6] at hz
      have q : bk (backM μ a cut).2 7 = z.a := congrArg Cd.a (cdD_inj hz)
      exact q.symm.trans h4
  · rcases back_bank (a := a) J.wf.any cut with ⟨hc, h⟩ | ⟨h1, h2, h3, h4, h5⟩
    · exact .inl ⟨hc, h, J1⟩
    · omega
end Fk
namespace Fk
open PySem PySem.Spec PyProof.Rows L2
local macro_rules | `(tactic| wtm_at "ln") => `(tactic| first
  | omega
  | (simp only [List.length_cons, List.length_nil, List.length_map, List.length_append, List.length_replicate, List.length_take, List.length_drop, List.length_set]; omega)
  | (with_unfolding_all exact (by decide)))
local macro_rules | `(tactic| wtm_at "ar") => `(tactic| first
  | ((with_reducible show CMulW _ _); (refine' mulS ?_ ?_ <;> omega))
  | ((with_reducible show CDivW _ _); (refine' divS ?_ ?_ <;> omega))
  | ((with_reducible show CPow _ _); exact ⟨by decide, by decide, by decide⟩)
  | (show (0 : Int) < _; omega)
  | (with_unfolding_all exact (by decide)))
local macro_rules | `(tactic| wtm_at "at") => `(tactic| first
  | assumption
  | (refine' cl_atE ?e80 ?h80; (case' e80 => first | exact rfl | assumption); (case' h80 => wtm_at "ln"))
  | exact rfl)
local macro_rules | `(tactic| wtm_at "fr") => `(tactic| first
  | assumption
  | ((with_reducible refine' Mx.free0 ?m99 ?h99); (case' h99 => assumption); (case' m99 => wtm_at "mo")))
local macro_rules | `(tactic| wtm_at "hp") => `(tactic| first
  | assumption
  | ((with_reducible refine' Mx.get0 ?m1 ?h1); (case' m1 => assumption); (case' h1 => wtm_at "hp"))
  | ((with_reducible refine' Mx.get ?m2 ?n2 ?h2); (case' m2 => assumption); (case' n2 => wtm_at "nin"); (case' h2 => wtm_at "hp")))
local macro_rules | `(tactic| wtm_at "sl") => `(tactic| first
  | assumption
  | ((with_reducible refine' Mx.sqL0 ?m96 ?h96); (case' h96 => assumption); (case' m96 => wtm_at "mo"))
  | (refine' SqL.of ?h3; (case' h3 => wtm_at "hp"))
  | ((with_reducible refine' Mx.sqL0 ?m4 ?h4); (case' m4 => assumption); (case' h4 => wtm_at "sl"))
  | ((with_reducible refine' Mx.sqL ?m5 ?n5 ?h5); (case' m5 => assumption); (case' n5 => wtm_at "nin"); (case' h5 => wtm_at "sl")))
local macro_rules | `(tactic| wtm_at "st") => `(tactic| first
  | assumption
  | ((with_reducible refine' Mx.sqT0 ?m97 ?h97); (case' h97 => assumption); (case' m97 => wtm_at "mo"))
  | (refine' SqT.of ?h6; (case' h6 => wtm_at "hp"))
  | ((with_reducible refine' Mx.sqT0 ?m7 ?h7); (case' m7 => assumption); (case' h7 => wtm_at "st"))
  | ((with_reducible refine' Mx.sqT ?m8 ?n8 ?h8); (case' m8 => assumption); (case' n8 => wtm_at "nin"); (case' h8 => wtm_at "st")))
local macro_rules | `(tactic| wtm_at "mx") => `(tactic| first
  | assumption
  | exact Mx.refl
  | ((with_reducible refine' Mx.of0 ?h9); (case' h9 => assumption))
  | ((with_reducible refine' Mx.trans ?h10 ?m10); (case' m10 => first | assumption | ((with_reducible refine' Mx.of0 ?q10); (case' q10 => assumption))); (case' h10 => wtm_at "mx")))
local macro_rules | `(tactic| wtm_at "mo") => `(tactic| first
  | wtm_at "mx"
  | ((with_reducible refine' Mx.own ?m90 ?f90 ?k90); (case' k90 => assumption); (case' f90 => wtm_at "fr"); (case' m90 => wtm_at "mo"))
  | ((with_reducible refine' Mx.trans ?h91 ?m91); (case' m91 => first | assumption | ((with_reducible refine' Mx.of0 ?q91); (case' q91 => assumption))); (case' h91 => wtm_at "mo")))
local macro_rules | `(tactic| wtm_at "ne") => `(tactic| first
  | assumption
  | exact Ne.symm (by assumption)
  | ((with_reducible refine' ne_of_none ?x94 ?y94); (case' y94 => assumption); (case' x94 => wtm_at "hp"))
  | ((with_reducible refine' Ne.symm (ne_of_none ?x95 ?y95)); (case' y95 => assumption); (case' x95 => wtm_at "hp")))
local macro_rules | `(tactic| wtm_at "nin") => `(tactic| first
  | assumption
  | exact List.not_mem_nil
  | ((with_reducible refine' List.not_mem_cons_of_ne_of_not_mem ?h98 ?t98); (case' h98 => wtm_at "ne"); (case' t98 => wtm_at "nin")))
local macro_rules | `(tactic| wtm_at "g1") => `(tactic| first
  | ((with_reducible refine' g_var ?h11 ?k11); (case' h11 => exact rfl))
  | with_reducible refine' g_c ?_
  | with_reducible refine' g_op ?_
  | with_reducible refine' g_I0 ?_
  | ((with_reducible refine' g_I ?c12 ?k12); (case' c12 => wtm_at "ar"))
  | with_reducible refine' g_cons ?_
  | with_reducible refine' g_nil ?_
  | with_reducible refine' g_seq ?_
  | with_reducible refine' g_asg ?_
  | with_reducible refine' g_name ?_
  | with_reducible refine' g_ret ?_
  | with_reducible refine' g_if ?_
  | with_reducible refine' g_test ?_
  | with_reducible refine' g_tB ?_
  | with_reducible refine' g_bl ?_
  | ((with_reducible refine' g_eq ?h13 ?k13); (case' h13 => exact rfl))
  | ((with_reducible refine' g_ne ?h14 ?k14); (case' h14 => exact rfl))
  | with_reducible refine' g_CB ?_
  | with_reducible refine' g_call ?_
  | with_reducible refine' g_drop ?_
  | with_reducible refine' g_next ?_
  | with_reducible refine' g_not ?_
  | with_reducible refine' g_and ?_
  | with_reducible refine' g_or ?_
  | with_reducible refine' g_un ?_
  | with_reducible refine' g_U ?_
  | with_reducible refine' g_tup ?_
  | with_reducible refine' g_lst ?_
  | ((with_reducible refine' g_kNew ?h15 ?k15); (case' h15 => wtm_at "ln"); (case' k15 => intro _ _ _ _ _))
  | ((with_reducible refine' g_ixL ?h16 ?a16 ?k16); (case' h16 => wtm_at "sl"); (case' a16 => wtm_at "at"))
  | ((with_reducible refine' g_ixT ?h17 ?a17 ?k17); (case' h17 => wtm_at "st"); (case' a17 => wtm_at "at"))
  | with_reducible refine' g_slice ?_
  | with_reducible refine' g_part ?_
  | with_reducible refine' g_kPart ?_
  | with_reducible refine' g_noPart ?_
  | ((with_reducible refine' g_slL ?h18 ?k18); (case' h18 => wtm_at "sl"); (case' k18 => intro _ _ _ _ _))
  | ((with_reducible refine' g_cat ?h119 ?h219 ?l19 ?k19); (case' h119 => wtm_at "hp"); (case' h219 => wtm_at "hp"); (case' l19 => wtm_at "ln"); (case' k19 => intro _ _ _ _ _))
  | ((with_reducible refine' g_rep ?h120 ?h220 ?h320 ?l20 ?k20); (case' h120 => wtm_at "hp"); (case' h220 => wtm_at "ln"); (case' h320 => wtm_at "ln"); (case' l20 => wtm_at "ln"); (case' k20 => intro _ _ _ _ _))
  | ((with_reducible refine' g_append ?h21 ?l21 ?k21); (case' h21 => wtm_at "hp"); (case' l21 => wtm_at "ln"); (case' k21 => intro _ _ _))
  | ((with_reducible refine' g_kBM ?h22 ?k22); (case' h22 => wtm_at "sl"))
  | ((with_reducible refine' g_kBM0 ?h23 ?k23); (case' h23 => wtm_at "sl"))
  | ((with_reducible refine' g_kL ?h24 ?k24); (case' h24 => wtm_at "sl"))
  | ((with_reducible refine' g_kR1 ?h125 ?h225 ?k25); (case' h125 => wtm_at "ln"); (case' h225 => wtm_at "ln"))
  | ((with_reducible refine' g_kR2 ?h126 ?h226 ?h326 ?h426 ?k26); (case' h126 => wtm_at "ln"); (case' h226 => wtm_at "ln"); (case' h326 => wtm_at "ln"); (case' h426 => wtm_at "ln"))
  | ((with_reducible refine' g_lenL ?h27 ?k27); (case' h27 => wtm_at "sl"))
  | ((with_reducible refine' g_lenT ?h28 ?k28); (case' h28 => wtm_at "st"))
  | ((with_reducible refine' g_listL ?h29 ?k29); (case' h29 => wtm_at "sl"); (case' k29 => intro _ _ _ _ _))
  | ((with_reducible refine' g_tupleL ?h30 ?k30); (case' h30 => wtm_at "sl"); (case' k30 => intro _ _ _ _ _))
  | with_reducible refine' g_max ?_
  | with_reducible refine' g_min ?_
  | with_reducible refine' g_intB ?_
  | with_reducible refine' g_fld ?_
  | with_reducible refine' g_put ?_
  | with_reducible refine' g_dget ?_
  | with_reducible refine' g_isN ?_
  | with_reducible refine' g_notN ?_
  | with_reducible refine' g_ifE ?_
  | with_reducible refine' g_andV ?_
  | with_reducible refine' g_orV ?_
  | with_reducible refine' g_notV ?_
  | with_reducible refine' g_kIf ?_
  | with_reducible refine' g_chain ?_
  | with_reducible refine' g_kCh ?_
  | with_reducible refine' g_sub ?_
  | ((with_reducible refine' g_setI ?h92 ?e92 ?j92 ?k92); (case' h92 => wtm_at "hp"); (case' e92 => first | exact rfl | assumption); (case' j92 => wtm_at "ln"); (case' k92 => intro _ _ _))
  | ((with_reducible refine' g_setL ?h89 ?i89 ?k89); (case' h89 => wtm_at "hp"); (case' i89 => exact ixE rfl (by wtm_at "ln")); (case' k89 => intro _ _ _))
  | ((with_reducible refine' g_gtup ?h93 ?e93 ?k93); (case' h93 => wtm_at "st"); (case' e93 => exact rfl))
  | with_reducible refine' g_gcons ?_
  | with_reducible refine' g_gnil ?_
  | with_reducible refine' g_par ?_
  | with_reducible refine' g_kPar ?_
  | with_reducible refine' g_meth ?_
  | with_reducible refine' g_bm ?_
  | with_reducible refine' g_bm0 ?_
  | with_reducible refine' g_raise ?_
  | with_reducible refine' g_for ?_
  | with_reducible refine' g_iR1 ?_
  | with_reducible refine' g_iR2 ?_
  | with_reducible refine' g_iL ?_
  | with_reducible refine' g_lc ?_
  | with_reducible refine' g_retN ?_
  | with_reducible refine' g_no (b := false) rfl ?_
  | with_reducible refine' g_yes (b := true) rfl ?_)
local macro_rules | `(tactic| wtm_at "go") => `(tactic| repeat (wtm_at "g1"))
local macro_rules | `(tactic| wtm_at "gs") => `(tactic| repeat ((fail_if_success (with_reducible refine' g_ifE ?_)); wtm_at "g1"))
local macro_rules | `(tactic| wtm_at "gi") => `(tactic| repeat ((fail_if_success (with_reducible refine' g_if ?_)); wtm_at "g1"))
local macro_rules | `(tactic| wtm_at "gr") => `(tactic| repeat ((fail_if_success (with_reducible refine' g_ret ?_)); wtm_at "g1"))
local macro_rules | `(tactic| wtm_at "gq") => `(tactic| repeat ((fail_if_success (with_reducible refine' g_asg ?_)); wtm_at "g1"))

section
variable {P : Program} {w : World} {K : PySem.W.Frag} {mg : Str → Option Value} {base : Heap}
local macro_rules | `(tactic| wtm_at "g1") => `(tactic| first
  | ((with_reducible refine' g_fOwn (by assumption) ?h201 ?k201); (case' h201 => wtm_at "hp"))
  | ((with_reducible refine' g_fKey (by assumption) ?h202 ?k202); (case' h202 => wtm_at "hp"))
  | ((with_reducible refine' g_fMem (by assumption) ?h203 ?k203); (case' h203 => wtm_at "hp"))
  | ((with_reducible refine' g_fPri (by assumption) ?h204 ?k204); (case' h204 => wtm_at "hp"))
  | ((with_reducible refine' g_fAwa (by assumption) ?h205 ?k205); (case' h205 => wtm_at "hp"))
  | ((with_reducible refine' g_pAwa (by assumption) ?h206 ?k206); (case' h206 => wtm_at "hp"); (case' k206 => intro _ _ _))
  | ((with_reducible refine' g_kMeth ?h207 ?l207 ?k207); (case' h207 => wtm_at "hp"); (case' l207 => exact rfl)))

local macro_rules | `(tactic| wtm_at "g1") => `(tactic| first
  | ((with_reducible refine' g_dNum ?h311 ?k311); (case' h311 => wtm_at "hp"))
  | ((with_reducible refine' g_dKey ?h312 ?k312); (case' h312 => wtm_at "hp"))
  | ((with_reducible refine' g_dCe ?h313 ?k313); (case' h313 => wtm_at "hp"))
  | ((with_reducible refine' g_dSt ?h314 ?k314); (case' h314 => wtm_at "hp"))
  | ((with_reducible refine' g_dUp ?h315 ?k315); (case' h315 => wtm_at "hp"))
  | ((with_reducible refine' g_kDGetS ?h301 ?l301 ?k301); (case' h301 => wtm_at "hp"); (case' l301 => exact rfl))
  | (with_reducible refine' g_dput ?_)
  | (with_reducible refine' g_iK ?_)
  | ((with_reducible refine' g_disp ?k305); (case' k305 => intro _ _ _ _ _))
  | (with_reducible refine' g_pcons ?_)
  | (with_reducible refine' g_pnil ?_)
  | ((with_reducible refine' g_kDisp ?h306 ?e306 ?f306 ?l306 ?k306); (case' h306 => wtm_at "hp"); (case' e306 => exact rfl); (case' f306 => exact rfl); (case' l306 => wtm_at "ln"); (case' k306 => intro _ _ _))
  | ((with_reducible refine' g_pUp ?h302 ?k302); (case' h302 => wtm_at "hp"); (case' k302 => intro _ _ _))
  | ((with_reducible refine' g_pSt ?h303 ?k303); (case' h303 => wtm_at "hp"); (case' k303 => intro _ _ _))
  | ((with_reducible refine' g_pCe ?h304 ?k304); (case' h304 => wtm_at "hp"); (case' k304 => intro _ _ _)))

local macro_rules | `(tactic| wtm_at "g1") => `(tactic| first
  | ((with_reducible refine' g_hKey (by assumption) ?h501 ?k501); (case' h501 => wtm_at "hp"))
  | ((with_reducible refine' g_hMon (by assumption) ?h502 ?k502); (case' h502 => wtm_at "hp"))
  | ((with_reducible refine' g_hSpe (by assumption) ?h503 ?k503); (case' h503 => wtm_at "hp"))
  | ((with_reducible refine' g_hIss (by assumption) ?h504 ?k504); (case' h504 => wtm_at "hp"))
  | ((with_reducible refine' g_hTak (by assumption) ?h505 ?k505); (case' h505 => wtm_at "hp"))
  | ((with_reducible refine' g_hpMon (by assumption) ?h506 ?k506); (case' h506 => wtm_at "hp"); (case' k506 => intro _ _ _))
  | ((with_reducible refine' g_hpSpe (by assumption) ?h507 ?k507); (case' h507 => wtm_at "hp"); (case' k507 => intro _ _ _))
  | ((with_reducible refine' g_kMeth ?h508 ?l508 ?k508); (case' h508 => wtm_at "hp"); (case' l508 => exact rfl))
  | ((with_reducible refine' g_kDGetI ?h509 ?l509 ?k509); (case' h509 => wtm_at "hp"); (case' l509 => wtm_at "kv"))
  | (with_reducible refine' g_dni ?_)
  | ((with_reducible refine' g_kDNi ?h510 ?k510); (case' h510 => wtm_at "hp"))
  | (with_reducible refine' g_lenSet ?_))
local macro_rules | `(tactic| wtm_at "kv") => `(tactic| first
  | exact kvO_get (by assumption)
  | exact rfl)

/-- the last code, as it is -/
def spHLastX (T : Tx K mg) : Sp := fun vs H Q E => ∃ (h di dt : Addr) (ai ak : Int → Addr) (η : Hs) (m : Int) (z : Cd), vs = [.ref h, .int m] ∧ HsAt T.C_House H h di dt ai ak η ∧ m ∈ η.ms ∧ (η.iss m).getLast? = some z ∧ ∀ t H', Mx [] H H' → H' t = some (.tup z.vs) → Q (.ref t) H'
theorem mt_House_last_codeX (T : Tx K mg) : Me P w K mg base 2 T.C_House "last_code" (spHLastX T) [] := by
  refine T.m_House_last_code.me T.cls_House sc_House_last_code (fun vs H Q E h => ?_) (fun cdv A outer s H vs Q E hr h => ?_)
  · obtain ⟨_, _, _, _, _, _, _, _, rfl, _⟩ := h
    rfl
  · obtain ⟨h, di, dt, ai, ak, η, m, z, rfl, M, hm, hz, q⟩ := h
    have hu := hu_of hr
    obtain ⟨dx, ob⟩ := M.ob
    refine ⟨_, (pss_cons (ps_expr (q_meth (mt_House_need_meter T) hr (by decide) (pv 0) (passes_call (takes_of rfl rfl rfl rfl) (fun _ _ _ _ h => h)) (pa_cons (pv 1) pa_nil)))
      (pss_one (ps_ret (pe_ifExp (pt_cmpR (opNeD K hr.units) (pe_dget hu (fldK K (pv 0) rfl) (pv 1) (fun _ _ => rfl)) (pe_lst pa_nil) (by first | exact nomark _ | rfl)) (pe_ix (ixL K) (pe_dget hu (fldK K (pv 0) rfl) (pv 1) (fun _ _ => rfl)) (pe_un un_neg pe_int) (fun _ _ => rfl)) pe_non)))), ?_⟩
    wtm_at "go"
    refine ⟨h, di, dt, ai, ak, η, m, rfl, M, fun _ => ?_, fun hm' => absurd hm hm'⟩
    have hdi := M.di
    obtain ⟨us, eu, du⟩ := M.li m hm
    have hne : η.iss m ≠ [] := fun e => by rw [e] at hz; cases hz
    obtain ⟨t, z', ht, hzz, hv⟩ := du.last hne
    have ez : z' = z := by rw [hz] at hzz; cases hzz; rfl
    subst ez
    wtm_at "go"
    rename_i l H1 n1 m1 e1
    refine g_neD (.lst (SqL.of (m1.get0 eu)) (du.mx m1 noTup0).dp) (.lst (SqL.of e1) .nil) (shaped_cds _) (shaped_cds []) ?_
    rw [eqv_nil]
    wtm_at "go"
    refine g_yes (by simp [hne]) ?_
    wtm_at "go"
    exact q _ _ m1 (m1.get0 hv)
end
end Fk
namespace Fk
open PySem PySem.Spec PyProof.Rows L2
local macro_rules | `(tactic| wtm_at "ln") => `(tactic| first
  | omega
  | (simp only [List.length_cons, List.length_nil, List.length_map, List.length_append, List.length_replicate, List.length_take, List.length_drop, List.length_set]; omega)
  | (with_unfolding_all exact (by decide)))
local macro_rules | `(tactic| wtm_at "ar") => `(tactic| first
  | ((with_reducible show CMulW _ _); (refine' mulS ?_ ?_ <;> omega))
  | ((with_reducible show CDivW _ _); (refine' divS ?_ ?_ <;> omega))
  | ((with_reducible show CPow _ _); exact ⟨by decide, by decide, by decide⟩)
  | (show (0 : Int) < _; omega)
  | (with_unfolding_all exact (by decide)))
local macro_rules | `(tactic| wtm_at "at") => `(tactic| first
  | assumption
  | (refine' cl_atE ?e80 ?h80; (case' e80 => first | exact rfl | assumption); (case' h80 => wtm_at "ln"))
  | exact rfl)
local macro_rules | `(tactic| wtm_at "fr") => `(tactic| first
  | assumption
  | ((with_reducible refine' Mx.free0 ?m99 ?h99); (case' h99 => assumption); (case' m99 => wtm_at "mo")))
local macro_rules | `(tactic| wtm_at "hp") => `(tactic| first
  | assumption
  | ((with_reducible refine' Mx.get0 ?m1 ?h1); (case' m1 => assumption); (case' h1 => wtm_at "hp"))
  | ((with_reducible refine' Mx.get ?m2 ?n2 ?h2); (case' m2 => assumption); (case' n2 => wtm_at "nin"); (case' h2 => wtm_at "hp")))
local macro_rules | `(tactic| wtm_at "sl") => `(tactic| first
  | assumption
  | ((with_reducible refine' Mx.sqL0 ?m96 ?h96); (case' h96 => assumption); (case' m96 => wtm_at "mo"))
  | (refine' SqL.of ?h3; (case' h3 => wtm_at "hp"))
  | ((with_reducible refine' Mx.sqL0 ?m4 ?h4); (case' m4 => assumption); (case' h4 => wtm_at "sl"))
  | ((with_reducible refine' Mx.sqL ?m5 ?n5 ?h5); (case' m5 => assumption); (case' n5 => wtm_at "nin"); (case' h5 => wtm_at "sl")))
local macro_rules | `(tactic| wtm_at "st") => `(tactic| first
  | assumption
  | ((with_reducible refine' Mx.sqT0 ?m97 ?h97); (case' h97 => assumption); (case' m97 => wtm_at "mo"))
  | (refine' SqT.of ?h6; (case' h6 => wtm_at "hp"))
  | ((with_reducible refine' Mx.sqT0 ?m7 ?h7); (case' m7 => assumption); (case' h7 => wtm_at "st"))
  | ((with_reducible refine' Mx.sqT ?m8 ?n8 ?h8); (case' m8 => assumption); (case' n8 => wtm_at "nin"); (case' h8 => wtm_at "st")))
local macro_rules | `(tactic| wtm_at "mx") => `(tactic| first
  | assumption
  | exact Mx.refl
  | ((with_reducible refine' Mx.of0 ?h9); (case' h9 => assumption))
  | ((with_reducible refine' Mx.trans ?h10 ?m10); (case' m10 => first | assumption | ((with_reducible refine' Mx.of0 ?q10); (case' q10 => assumption))); (case' h10 => wtm_at "mx")))
local macro_rules | `(tactic| wtm_at "mo") => `(tactic| first
  | wtm_at "mx"
  | ((with_reducible refine' Mx.own ?m90 ?f90 ?k90); (case' k90 => assumption); (case' f90 => wtm_at "fr"); (case' m90 => wtm_at "mo"))
  | ((with_reducible refine' Mx.trans ?h91 ?m91); (case' m91 => first | assumption | ((with_reducible refine' Mx.of0 ?q91); (case' q91 => assumption))); (case' h91 => wtm_at "mo")))
local macro_rules | `(tactic| wtm_at "ne") => `(tactic| first
  | assumption
  | exact Ne.symm (by assumption)
  | ((with_reducible refine' ne_of_none ?x94 ?y94); (case' y94 => assumption); (case' x94 => wtm_at "hp"))
  | ((with_reducible refine' Ne.symm (ne_of_none ?x95 ?y95)); (case' y95 => assumption); (case' x95 => wtm_at "hp")))
local macro_rules | `(tactic| wtm_at "nin") => `(tactic| first
  | assumption
  | exact List.not_mem_nil
  | ((with_reducible refine' List.not_mem_cons_of_ne_of_not_mem ?h98 ?t98); (case' h98 => wtm_at "ne"); (case' t98 => wtm_at "nin")))
local macro_rules | `(tactic| wtm_at "g1") => `(tactic| first
  | ((with_reducible refine' g_var ?h11 ?k11); (case' h11 => exact rfl))
  | with_reducible refine' g_c ?_
  | with_reducible refine' g_op ?_
  | with_reducible refine' g_I0 ?_
  | ((with_reducible refine' g_I ?c12 ?k12); (case' c12 => wtm_at "ar"))
  | with_reducible refine' g_cons ?_
  | with_reducible refine' g_nil ?_
  | with_reducible refine' g_seq ?_
  | with_reducible refine' g_asg ?_
  | with_reducible refine' g_name ?_
  | with_reducible refine' g_ret ?_
  | with_reducible refine' g_if ?_
  | with_reducible refine' g_test ?_
  | with_reducible refine' g_tB ?_
  | with_reducible refine' g_bl ?_
  | ((with_reducible refine' g_eq ?h13 ?k13); (case' h13 => exact rfl))
  | ((with_reducible refine' g_ne ?h14 ?k14); (case' h14 => exact rfl))
  | with_reducible refine' g_CB ?_
  | with_reducible refine' g_call ?_
  | with_reducible refine' g_drop ?_
  | with_reducible refine' g_next ?_
  | with_reducible refine' g_not ?_
  | with_reducible refine' g_and ?_
  | with_reducible refine' g_or ?_
  | with_reducible refine' g_un ?_
  | with_reducible refine' g_U ?_
  | with_reducible refine' g_tup ?_
  | with_reducible refine' g_lst ?_
  | ((with_reducible refine' g_kNew ?h15 ?k15); (case' h15 => wtm_at "ln"); (case' k15 => intro _ _ _ _ _))
  | ((with_reducible refine' g_ixL ?h16 ?a16 ?k16); (case' h16 => wtm_at "sl"); (case' a16 => wtm_at "at"))
  | ((with_reducible refine' g_ixT ?h17 ?a17 ?k17); (case' h17 => wtm_at "st"); (case' a17 => wtm_at "at"))
  | with_reducible refine' g_slice ?_
  | with_reducible refine' g_part ?_
  | with_reducible refine' g_kPart ?_
  | with_reducible refine' g_noPart ?_
  | ((with_reducible refine' g_slL ?h18 ?k18); (case' h18 => wtm_at "sl"); (case' k18 => intro _ _ _ _ _))
  | ((with_reducible refine' g_cat ?h119 ?h219 ?l19 ?k19); (case' h119 => wtm_at "hp"); (case' h219 => wtm_at "hp"); (case' l19 => wtm_at "ln"); (case' k19 => intro _ _ _ _ _))
  | ((with_reducible refine' g_rep ?h120 ?h220 ?h320 ?l20 ?k20); (case' h120 => wtm_at "hp"); (case' h220 => wtm_at "ln"); (case' h320 => wtm_at "ln"); (case' l20 => wtm_at "ln"); (case' k20 => intro _ _ _ _ _))
  | ((with_reducible refine' g_append ?h21 ?l21 ?k21); (case' h21 => wtm_at "hp"); (case' l21 => wtm_at "ln"); (case' k21 => intro _ _ _))
  | ((with_reducible refine' g_kBM ?h22 ?k22); (case' h22 => wtm_at "sl"))
  | ((with_reducible refine' g_kBM0 ?h23 ?k23); (case' h23 => wtm_at "sl"))
  | ((with_reducible refine' g_kL ?h24 ?k24); (case' h24 => wtm_at "sl"))
  | ((with_reducible refine' g_kR1 ?h125 ?h225 ?k25); (case' h125 => wtm_at "ln"); (case' h225 => wtm_at "ln"))
  | ((with_reducible refine' g_kR2 ?h126 ?h226 ?h326 ?h426 ?k26); (case' h126 => wtm_at "ln"); (case' h226 => wtm_at "ln"); (case' h326 => wtm_at "ln"); (case' h426 => wtm_at "ln"))
  | ((with_reducible refine' g_lenL ?h27 ?k27); (case' h27 => wtm_at "sl"))
  | ((with_reducible refine' g_lenT ?h28 ?k28); (case' h28 => wtm_at "st"))
  | ((with_reducible refine' g_listL ?h29 ?k29); (case' h29 => wtm_at "sl"); (case' k29 => intro _ _ _ _ _))
  | ((with_reducible refine' g_tupleL ?h30 ?k30); (case' h30 => wtm_at "sl"); (case' k30 => intro _ _ _ _ _))
  | with_reducible refine' g_max ?_
  | with_reducible refine' g_min ?_
  | with_reducible refine' g_intB ?_
  | with_reducible refine' g_fld ?_
  | with_reducible refine' g_put ?_
  | with_reducible refine' g_dget ?_
  | with_reducible refine' g_isN ?_
  | with_reducible refine' g_notN ?_
  | with_reducible refine' g_ifE ?_
  | with_reducible refine' g_andV ?_
  | with_reducible refine' g_orV ?_
  | with_reducible refine' g_notV ?_
  | with_reducible refine' g_kIf ?_
  | with_reducible refine' g_chain ?_
  | with_reducible refine' g_kCh ?_
  | with_reducible refine' g_sub ?_
  | ((with_reducible refine' g_setI ?h92 ?e92 ?j92 ?k92); (case' h92 => wtm_at "hp"); (case' e92 => first | exact rfl | assumption); (case' j92 => wtm_at "ln"); (case' k92 => intro _ _ _))
  | ((with_reducible refine' g_setL ?h89 ?i89 ?k89); (case' h89 => wtm_at "hp"); (case' i89 => exact ixE rfl (by wtm_at "ln")); (case' k89 => intro _ _ _))
  | ((with_reducible refine' g_gtup ?h93 ?e93 ?k93); (case' h93 => wtm_at "st"); (case' e93 => exact rfl))
  | with_reducible refine' g_gcons ?_
  | with_reducible refine' g_gnil ?_
  | with_reducible refine' g_par ?_
  | with_reducible refine' g_kPar ?_
  | with_reducible refine' g_meth ?_
  | with_reducible refine' g_bm ?_
  | with_reducible refine' g_bm0 ?_
  | with_reducible refine' g_raise ?_
  | with_reducible refine' g_for ?_
  | with_reducible refine' g_iR1 ?_
  | with_reducible refine' g_iR2 ?_
  | with_reducible refine' g_iL ?_
  | with_reducible refine' g_lc ?_
  | with_reducible refine' g_retN ?_
  | with_reducible refine' g_no (b := false) rfl ?_
  | with_reducible refine' g_yes (b := true) rfl ?_)
local macro_rules | `(tactic| wtm_at "go") => `(tactic| repeat (wtm_at "g1"))
local macro_rules | `(tactic| wtm_at "gs") => `(tactic| repeat ((fail_if_success (with_reducible refine' g_ifE ?_)); wtm_at "g1"))
local macro_rules | `(tactic| wtm_at "gi") => `(tactic| repeat ((fail_if_success (with_reducible refine' g_if ?_)); wtm_at "g1"))
local macro_rules | `(tactic| wtm_at "gr") => `(tactic| repeat ((fail_if_success (with_reducible refine' g_ret ?_)); wtm_at "g1"))
local macro_rules | `(tactic| wtm_at "gq") => `(tactic| repeat ((fail_if_success (with_reducible refine' g_asg ?_)); wtm_at "g1"))

def newMt (n k : Int) : Mt := ⟨n, k, 1 :: List.replicate 19 0, [], true⟩
theorem newMt_bank (n k : Int) : bank (newMt n k).cells = [1, 0, 0, 0, 0, 0, 0, 0, 0, 0] := by
  show bank (1 :: List.replicate 19 0) = _
  decide +kernel
theorem newMt_bk (n k : Int) (i : Nat) : bk (newMt n k) i = cl [1, 0, 0, 0, 0, 0, 0, 0, 0, 0] i := by unfold bk; rw [newMt_bank]
theorem newMt_any (n k : Int) : Any (newMt n k).cells := by
  exact ⟨rfl, .inl rfl⟩
theorem newMt_wf {n k : Int} (hn : 1 ≤ n ∧ n ≤ 9999) (hk : 0 ≤ k ∧ k ≤ 999981) : Wf 0 (newMt n k) := by
  have hb : ∀ i, 0 ≤ bk (newMt n k) i ∧ bk (newMt n k) i ≤ 1 := fun i => by
    rw [newMt_bk]
    match i with
    | 0 => decide
    | 1 => decide
    | 2 => decide
    | 3 => decide
    | 4 => decide
    | 5 => decide
    | 6 => decide
    | 7 => decide
    | 8 => decide
    | 9 => decide
    | i + 10 => exact ⟨Int.le_refl 0, by show (0 : Int) ≤ 1; decide⟩
  have lo := wfB_lo 0
  refine ⟨newMt_any n k, fun _ => ?_, hn, hk, (hb 6).1, fun i => ?_, Nat.le_refl _⟩
  · unfold owed
    rw [newMt_bk, if_neg (by show ¬ (0 : Int) < cl [1, 0, 0, 0, 0, 0, 0, 0, 0, 0] 8; decide)]
  · have := hb i
    omega
theorem newMt_gd (n k : Int) : Gd (newMt n k) := by
  have e := newMt_bk n k
  refine ⟨⟨by rw [e, e, e]; decide, by rw [e]; decide, by rw [e]; decide, Nb.nil, .inl ⟨by rw [e]; rfl, by rw [e]; rfl⟩⟩, fun _ => by rw [e]; rfl⟩
theorem newMt_jn {ky : Int} {ms : List Int} {j : Nat} (hk : 0 ≤ ky ∧ ky ≤ 999981) (hm : 1 ≤ cl ms j ∧ cl ms j ≤ 9999) : Jn 0 (newHs ky ms) (cl ms j) (newMt (cl ms j) ky) [] [] := by
  have e := newMt_bk (cl ms j) ky
  exact ⟨newMt_wf hm hk, newMt_gd _ _, rfl, rfl, by rw [e]; rfl, trivial, by rw [e]; rfl, trivial, by rw [e]; rfl, Nat.le_refl _, Nat.le_refl _⟩
theorem newHs_w {ky : Int} {ms : List Int} (hk : 0 ≤ ky ∧ ky ≤ 999981) (hb : ∀ m ∈ ms, 1 ≤ m ∧ m ≤ 9999) (nd : ms.Nodup) (hln : 1 ≤ ms.length ∧ ms.length ≤ 4) : Hw 0 (newHs ky ms) :=
  ⟨hk, by show (0 : Int).natAbs ≤ _; simp, by show (0 : Int).natAbs ≤ _; simp, hb, fun _ _ => by simp [newHs], fun _ _ => by simp [newHs], nd, hln⟩
theorem newHs_jh (ky : Int) (ms : List Int) : Jh (newHs ky ms) := by
  have : ∀ l : List Int, outS (newHs ky ms) l = 0 := fun l => by
    induction l with
    | nil => rfl
    | cons m l ih => show outM (newHs ky ms) m + outS (newHs ky ms) l = 0; rw [ih]; rfl
  refine ⟨?_, Int.le_refl 0⟩
  show 0 + outS (newHs ky ms) ms = 0
  rw [this]
  rfl
theorem cl_ne {ms : List Int} (nd : ms.Nodup) {i j : Nat} (hi : i < ms.length) (hj : j < ms.length) (h : i ≠ j) : cl ms i ≠ cl ms j := by
  have e : ∀ k, k < ms.length → ∃ h : k < ms.length, cl ms k = ms[k] := fun k hk => ⟨hk, by unfold cl; rw [List.getD_eq_getElem?_getD, List.getElem?_eq_getElem hk]; rfl⟩
  obtain ⟨h1, e1⟩ := e i hi
  obtain ⟨h2, e2⟩ := e j hj
  rw [e1, e2]
  have P := List.pairwise_iff_getElem.mp nd
  rcases Nat.lt_or_gt_of_ne h with q | q
  · exact P i j h1 h2 q
  · exact fun z => P j i h2 h1 q z.symm
theorem cl_memX {xs : List Int} {i : Nat} (h : i < xs.length) : cl xs i ∈ xs := by
  unfold cl
  rw [List.getD_eq_getElem?_getD, List.getElem?_eq_getElem h]
  exact List.getElem_mem h
end Fk
namespace Fk
open PySem PySem.Spec PyProof.Rows L2
local macro_rules | `(tactic| wtm_at "ln") => `(tactic| first
  | omega
  | (simp only [List.length_cons, List.length_nil, List.length_map, List.length_append, List.length_replicate, List.length_take, List.length_drop, List.length_set]; omega)
  | (with_unfolding_all exact (by decide)))
local macro_rules | `(tactic| wtm_at "ar") => `(tactic| first
  | ((with_reducible show CMulW _ _); (refine' mulS ?_ ?_ <;> omega))
  | ((with_reducible show CDivW _ _); (refine' divS ?_ ?_ <;> omega))
  | ((with_reducible show CPow _ _); exact ⟨by decide, by decide, by decide⟩)
  | (show (0 : Int) < _; omega)
  | (with_unfolding_all exact (by decide)))
local macro_rules | `(tactic| wtm_at "at") => `(tactic| first
  | assumption
  | (refine' cl_atE ?e80 ?h80; (case' e80 => first | exact rfl | assumption); (case' h80 => wtm_at "ln"))
  | exact rfl)
local macro_rules | `(tactic| wtm_at "fr") => `(tactic| first
  | assumption
  | ((with_reducible refine' Mx.free0 ?m99 ?h99); (case' h99 => assumption); (case' m99 => wtm_at "mo")))
local macro_rules | `(tactic| wtm_at "hp") => `(tactic| first
  | assumption
  | ((with_reducible refine' Mx.get0 ?m1 ?h1); (case' m1 => assumption); (case' h1 => wtm_at "hp"))
  | ((with_reducible refine' Mx.get ?m2 ?n2 ?h2); (case' m2 => assumption); (case' n2 => wtm_at "nin"); (case' h2 => wtm_at "hp")))
local macro_rules | `(tactic| wtm_at "sl") => `(tactic| first
  | assumption
  | ((with_reducible refine' Mx.sqL0 ?m96 ?h96); (case' h96 => assumption); (case' m96 => wtm_at "mo"))
  | (refine' SqL.of ?h3; (case' h3 => wtm_at "hp"))
  | ((with_reducible refine' Mx.sqL0 ?m4 ?h4); (case' m4 => assumption); (case' h4 => wtm_at "sl"))
  | ((with_reducible refine' Mx.sqL ?m5 ?n5 ?h5); (case' m5 => assumption); (case' n5 => wtm_at "nin"); (case' h5 => wtm_at "sl")))
local macro_rules | `(tactic| wtm_at "st") => `(tactic| first
  | assumption
  | ((with_reducible refine' Mx.sqT0 ?m97 ?h97); (case' h97 => assumption); (case' m97 => wtm_at "mo"))
  | (refine' SqT.of ?h6; (case' h6 => wtm_at "hp"))
  | ((with_reducible refine' Mx.sqT0 ?m7 ?h7); (case' m7 => assumption); (case' h7 => wtm_at "st"))
  | ((with_reducible refine' Mx.sqT ?m8 ?n8 ?h8); (case' m8 => assumption); (case' n8 => wtm_at "nin"); (case' h8 => wtm_at "st")))
local macro_rules | `(tactic| wtm_at "mx") => `(tactic| first
  | assumption
  | exact Mx.refl
  | ((with_reducible refine' Mx.of0 ?h9); (case' h9 => assumption))
  | ((with_reducible refine' Mx.trans ?h10 ?m10); (case' m10 => first | assumption | ((with_reducible refine' Mx.of0 ?q10); (case' q10 => assumption))); (case' h10 => wtm_at "mx")))
local macro_rules | `(tactic| wtm_at "mo") => `(tactic| first
  | wtm_at "mx"
  | ((with_reducible refine' Mx.own ?m90 ?f90 ?k90); (case' k90 => assumption); (case' f90 => wtm_at "fr"); (case' m90 => wtm_at "mo"))
  | ((with_reducible refine' Mx.trans ?h91 ?m91); (case' m91 => first | assumption | ((with_reducible refine' Mx.of0 ?q91); (case' q91 => assumption))); (case' h91 => wtm_at "mo")))
local macro_rules | `(tactic| wtm_at "ne") => `(tactic| first
  | assumption
  | exact Ne.symm (by assumption)
  | ((with_reducible refine' ne_of_none ?x94 ?y94); (case' y94 => assumption); (case' x94 => wtm_at "hp"))
  | ((with_reducible refine' Ne.symm (ne_of_none ?x95 ?y95)); (case' y95 => assumption); (case' x95 => wtm_at "hp")))
local macro_rules | `(tactic| wtm_at "nin") => `(tactic| first
  | assumption
  | exact List.not_mem_nil
  | ((with_reducible refine' List.not_mem_cons_of_ne_of_not_mem ?h98 ?t98); (case' h98 => wtm_at "ne"); (case' t98 => wtm_at "nin")))
local macro_rules | `(tactic| wtm_at "g1") => `(tactic| first
  | ((with_reducible refine' g_var ?h11 ?k11); (case' h11 => exact rfl))
  | with_reducible refine' g_c ?_
  | with_reducible refine' g_op ?_
  | with_reducible refine' g_I0 ?_
  | ((with_reducible refine' g_I ?c12 ?k12); (case' c12 => wtm_at "ar"))
  | with_reducible refine' g_cons ?_
  | with_reducible refine' g_nil ?_
  | with_reducible refine' g_seq ?_
  | with_reducible refine' g_asg ?_
  | with_reducible refine' g_name ?_
  | with_reducible refine' g_ret ?_
  | with_reducible refine' g_if ?_
  | with_reducible refine' g_test ?_
  | with_reducible refine' g_tB ?_
  | with_reducible refine' g_bl ?_
  | ((with_reducible refine' g_eq ?h13 ?k13); (case' h13 => exact rfl))
  | ((with_reducible refine' g_ne ?h14 ?k14); (case' h14 => exact rfl))
  | with_reducible refine' g_CB ?_
  | with_reducible refine' g_call ?_
  | with_reducible refine' g_drop ?_
  | with_reducible refine' g_next ?_
  | with_reducible refine' g_not ?_
  | with_reducible refine' g_and ?_
  | with_reducible refine' g_or ?_
  | with_reducible refine' g_un ?_
  | with_reducible refine' g_U ?_
  | with_reducible refine' g_tup ?_
  | with_reducible refine' g_lst ?_
  | ((with_reducible refine' g_kNew ?h15 ?k15); (case' h15 => wtm_at "ln"); (case' k15 => intro _ _ _ _ _))
  | ((with_reducible refine' g_ixL ?h16 ?a16 ?k16); (case' h16 => wtm_at "sl"); (case' a16 => wtm_at "at"))
  | ((with_reducible refine' g_ixT ?h17 ?a17 ?k17); (case' h17 => wtm_at "st"); (case' a17 => wtm_at "at"))
  | with_reducible refine' g_slice ?_
  | with_reducible refine' g_part ?_
  | with_reducible refine' g_kPart ?_
  | with_reducible refine' g_noPart ?_
  | ((with_reducible refine' g_slL ?h18 ?k18); (case' h18 => wtm_at "sl"); (case' k18 => intro _ _ _ _ _))
  | ((with_reducible refine' g_cat ?h119 ?h219 ?l19 ?k19); (case' h119 => wtm_at "hp"); (case' h219 => wtm_at "hp"); (case' l19 => wtm_at "ln"); (case' k19 => intro _ _ _ _ _))
  | ((with_reducible refine' g_rep ?h120 ?h220 ?h320 ?l20 ?k20); (case' h120 => wtm_at "hp"); (case' h220 => wtm_at "ln"); (case' h320 => wtm_at "ln"); (case' l20 => wtm_at "ln"); (case' k20 => intro _ _ _ _ _))
  | ((with_reducible refine' g_append ?h21 ?l21 ?k21); (case' h21 => wtm_at "hp"); (case' l21 => wtm_at "ln"); (case' k21 => intro _ _ _))
  | ((with_reducible refine' g_kBM ?h22 ?k22); (case' h22 => wtm_at "sl"))
  | ((with_reducible refine' g_kBM0 ?h23 ?k23); (case' h23 => wtm_at "sl"))
  | ((with_reducible refine' g_kL ?h24 ?k24); (case' h24 => wtm_at "sl"))
  | ((with_reducible refine' g_kR1 ?h125 ?h225 ?k25); (case' h125 => wtm_at "ln"); (case' h225 => wtm_at "ln"))
  | ((with_reducible refine' g_kR2 ?h126 ?h226 ?h326 ?h426 ?k26); (case' h126 => wtm_at "ln"); (case' h226 => wtm_at "ln"); (case' h326 => wtm_at "ln"); (case' h426 => wtm_at "ln"))
  | ((with_reducible refine' g_lenL ?h27 ?k27); (case' h27 => wtm_at "sl"))
  | ((with_reducible refine' g_lenT ?h28 ?k28); (case' h28 => wtm_at "st"))
  | ((with_reducible refine' g_listL ?h29 ?k29); (case' h29 => wtm_at "sl"); (case' k29 => intro _ _ _ _ _))
  | ((with_reducible refine' g_tupleL ?h30 ?k30); (case' h30 => wtm_at "sl"); (case' k30 => intro _ _ _ _ _))
  | with_reducible refine' g_max ?_
  | with_reducible refine' g_min ?_
  | with_reducible refine' g_intB ?_
  | with_reducible refine' g_fld ?_
  | with_reducible refine' g_put ?_
  | with_reducible refine' g_dget ?_
  | with_reducible refine' g_isN ?_
  | with_reducible refine' g_notN ?_
  | with_reducible refine' g_ifE ?_
  | with_reducible refine' g_andV ?_
  | with_reducible refine' g_orV ?_
  | with_reducible refine' g_notV ?_
  | with_reducible refine' g_kIf ?_
  | with_reducible refine' g_chain ?_
  | with_reducible refine' g_kCh ?_
  | with_reducible refine' g_sub ?_
  | ((with_reducible refine' g_setI ?h92 ?e92 ?j92 ?k92); (case' h92 => wtm_at "hp"); (case' e92 => first | exact rfl | assumption); (case' j92 => wtm_at "ln"); (case' k92 => intro _ _ _))
  | ((with_reducible refine' g_setL ?h89 ?i89 ?k89); (case' h89 => wtm_at "hp"); (case' i89 => exact ixE rfl (by wtm_at "ln")); (case' k89 => intro _ _ _))
  | ((with_reducible refine' g_gtup ?h93 ?e93 ?k93); (case' h93 => wtm_at "st"); (case' e93 => exact rfl))
  | with_reducible refine' g_gcons ?_
  | with_reducible refine' g_gnil ?_
  | with_reducible refine' g_par ?_
  | with_reducible refine' g_kPar ?_
  | with_reducible refine' g_meth ?_
  | with_reducible refine' g_bm ?_
  | with_reducible refine' g_bm0 ?_
  | with_reducible refine' g_raise ?_
  | with_reducible refine' g_for ?_
  | with_reducible refine' g_iR1 ?_
  | with_reducible refine' g_iR2 ?_
  | with_reducible refine' g_iL ?_
  | with_reducible refine' g_lc ?_
  | with_reducible refine' g_retN ?_
  | with_reducible refine' g_no (b := false) rfl ?_
  | with_reducible refine' g_yes (b := true) rfl ?_)
local macro_rules | `(tactic| wtm_at "go") => `(tactic| repeat (wtm_at "g1"))
local macro_rules | `(tactic| wtm_at "gs") => `(tactic| repeat ((fail_if_success (with_reducible refine' g_ifE ?_)); wtm_at "g1"))
local macro_rules | `(tactic| wtm_at "gi") => `(tactic| repeat ((fail_if_success (with_reducible refine' g_if ?_)); wtm_at "g1"))
local macro_rules | `(tactic| wtm_at "gr") => `(tactic| repeat ((fail_if_success (with_reducible refine' g_ret ?_)); wtm_at "g1"))
local macro_rules | `(tactic| wtm_at "gq") => `(tactic| repeat ((fail_if_success (with_reducible refine' g_asg ?_)); wtm_at "g1"))

/-! ### a house and a meter, filled -/
theorem Hw.le {n k : Nat} {η : Hs} (W : Hw n η) (h : n ≤ k) : Hw k η := by
  obtain ⟨kk, mo, sp, mb, li, lk, nd, ln⟩ := W
  exact ⟨kk, by omega, by omega, mb, fun m q => Nat.le_trans (li m q) h, fun m q => Nat.le_trans (lk m q) h, nd, ln⟩
theorem newH_w {n : Nat} {η : Hs} (W : Hw n η) {d : HD} (h : resH η d = none) : Hw (n + 1) (newH η d) := by
  have := dueH_w W d
  unfold dueH at this
  rw [h] at this
  exact this
structure Cm (K : PySem.W.Frag) (C CM : Addr) (H0 H : Hp) (r h di dt : Addr) (ai ak : Int → Addr) (η : Hs) (p pm pp : Addr) (μ : Mt) : Prop where
  st : StAt K H0 H r
  hs : HsAt C H h di dt ai ak η
  me : MetAt K CM H p pm pp μ
  ap : Ap H0 r h di dt ai ak η.ms p pm pp
section
variable {K : PySem.W.Frag} {C CM : Addr} {H0 H H' : Hp} {r h di dt : Addr} {ai ak : Int → Addr} {η η' : Hs} {p pm pp : Addr} {μ μ' : Mt}
theorem Cm.mr (D : Cm K C CM H0 H r h di dt ai ak η p pm pp μ) (m : Mx [r] H H') (s : StAt K H0 H' r) : Cm K C CM H0 H' r h di dt ai ak η p pm pp μ := by
  obtain ⟨st, hs, me, ap⟩ := D
  have nt := st.nt
  refine ⟨s, hs.mx m nt (fun y hy => by simp; exact (ap.a1 y hy).1), me.mx m nt ?_ ?_ ?_, ap⟩
  · simp; exact (ap.a2 p (by simp)).1
  · simp; exact (ap.a2 pm (by simp)).1
  · simp; exact (ap.a2 pp (by simp)).1
theorem Cm.mx0 (D : Cm K C CM H0 H r h di dt ai ak η p pm pp μ) (m : Mx [] H H') : Cm K C CM H0 H' r h di dt ai ak η p pm pp μ := ⟨D.st.mx0 m, D.hs.mx0 m, D.me.mx0 m, D.ap⟩
theorem Cm.met (D : Cm K C CM H0 H r h di dt ai ak η p pm pp μ) (m : Mx [p, pm, pp] H H') (M : MetAt K CM H' p pm pp μ') : Cm K C CM H0 H' r h di dt ai ak η p pm pp μ' := by
  obtain ⟨st, hs, me, ap⟩ := D
  have nt : NoTup H [p, pm, pp] := noTup_all fun y hy => (me.obj y hy).1
  exact ⟨st.mv m (fun x hx => (ap.a2 x hx).2) (fun z => (ap.a2 r z).1 rfl), hs.mx m nt ap.a3, M, ap⟩
theorem Cm.hou {S : List Addr} (D : Cm K C CM H0 H r h di dt ai ak η p pm pp μ) (m : Mx S H H') (hS : ∀ y ∈ S, y ∈ ftH h di dt ai ak η.ms) (M : HsAt C H' h di dt ai ak η') (e : η'.ms = η.ms) : Cm K C CM H0 H' r h di dt ai ak η' p pm pp μ := by
  obtain ⟨st, hs, me, ap⟩ := D
  have nt : NoTup H S := noTup_all fun y hy => (hs.obj y (hS y hy)).1
  refine ⟨st.mv m (fun x hx => (ap.a1 x (hS x hx)).2) (fun z => (ap.a1 r (hS r z)).1 rfl), M, me.mx m nt ?_ ?_ ?_, by rw [e]; exact ap⟩
  · exact fun z => ap.a3 p (hS p z) (by simp)
  · exact fun z => ap.a3 pm (hS pm z) (by simp)
  · exact fun z => ap.a3 pp (hS pp z) (by simp)
end
section
variable {P : Program} {w : World} {K : PySem.W.Frag} {mg : Str → Option Value} {base : Heap}
local macro_rules | `(tactic| wtm_at "g1") => `(tactic| first
  | ((with_reducible refine' g_fOwn (by assumption) ?h201 ?k201); (case' h201 => wtm_at "hp"))
  | ((with_reducible refine' g_fKey (by assumption) ?h202 ?k202); (case' h202 => wtm_at "hp"))
  | ((with_reducible refine' g_fMem (by assumption) ?h203 ?k203); (case' h203 => wtm_at "hp"))
  | ((with_reducible refine' g_fPri (by assumption) ?h204 ?k204); (case' h204 => wtm_at "hp"))
  | ((with_reducible refine' g_fAwa (by assumption) ?h205 ?k205); (case' h205 => wtm_at "hp"))
  | ((with_reducible refine' g_pAwa (by assumption) ?h206 ?k206); (case' h206 => wtm_at "hp"); (case' k206 => intro _ _ _))
  | ((with_reducible refine' g_kMeth ?h207 ?l207 ?k207); (case' h207 => wtm_at "hp"); (case' l207 => exact rfl)))

local macro_rules | `(tactic| wtm_at "g1") => `(tactic| first
  | ((with_reducible refine' g_dNum ?h311 ?k311); (case' h311 => wtm_at "hp"))
  | ((with_reducible refine' g_dKey ?h312 ?k312); (case' h312 => wtm_at "hp"))
  | ((with_reducible refine' g_dCe ?h313 ?k313); (case' h313 => wtm_at "hp"))
  | ((with_reducible refine' g_dSt ?h314 ?k314); (case' h314 => wtm_at "hp"))
  | ((with_reducible refine' g_dUp ?h315 ?k315); (case' h315 => wtm_at "hp"))
  | ((with_reducible refine' g_kDGetS ?h301 ?l301 ?k301); (case' h301 => wtm_at "hp"); (case' l301 => exact rfl))
  | (with_reducible refine' g_dput ?_)
  | (with_reducible refine' g_iK ?_)
  | ((with_reducible refine' g_disp ?k305); (case' k305 => intro _ _ _ _ _))
  | (with_reducible refine' g_pcons ?_)
  | (with_reducible refine' g_pnil ?_)
  | ((with_reducible refine' g_kDisp ?h306 ?e306 ?f306 ?l306 ?k306); (case' h306 => wtm_at "hp"); (case' e306 => exact rfl); (case' f306 => exact rfl); (case' l306 => wtm_at "ln"); (case' k306 => intro _ _ _))
  | ((with_reducible refine' g_pUp ?h302 ?k302); (case' h302 => wtm_at "hp"); (case' k302 => intro _ _ _))
  | ((with_reducible refine' g_pSt ?h303 ?k303); (case' h303 => wtm_at "hp"); (case' k303 => intro _ _ _))
  | ((with_reducible refine' g_pCe ?h304 ?k304); (case' h304 => wtm_at "hp"); (case' k304 => intro _ _ _)))

local macro_rules | `(tactic| wtm_at "g1") => `(tactic| first
  | ((with_reducible refine' g_hKey (by assumption) ?h501 ?k501); (case' h501 => wtm_at "hp"))
  | ((with_reducible refine' g_hMon (by assumption) ?h502 ?k502); (case' h502 => wtm_at "hp"))
  | ((with_reducible refine' g_hSpe (by assumption) ?h503 ?k503); (case' h503 => wtm_at "hp"))
  | ((with_reducible refine' g_hIss (by assumption) ?h504 ?k504); (case' h504 => wtm_at "hp"))
  | ((with_reducible refine' g_hTak (by assumption) ?h505 ?k505); (case' h505 => wtm_at "hp"))
  | ((with_reducible refine' g_hpMon (by assumption) ?h506 ?k506); (case' h506 => wtm_at "hp"); (case' k506 => intro _ _ _))
  | ((with_reducible refine' g_hpSpe (by assumption) ?h507 ?k507); (case' h507 => wtm_at "hp"); (case' k507 => intro _ _ _))
  | ((with_reducible refine' g_kMeth ?h508 ?l508 ?k508); (case' h508 => wtm_at "hp"); (case' l508 => exact rfl))
  | ((with_reducible refine' g_kDGetI ?h509 ?l509 ?k509); (case' h509 => wtm_at "hp"); (case' l509 => wtm_at "kv"))
  | (with_reducible refine' g_dni ?_)
  | ((with_reducible refine' g_kDNi ?h510 ?k510); (case' h510 => wtm_at "hp"))
  | (with_reducible refine' g_lenSet ?_))
local macro_rules | `(tactic| wtm_at "kv") => `(tactic| first
  | exact kvO_get (by assumption)
  | exact rfl)

def spFilled (T : Tx K mg) : Sp := fun vs H Q _ => ∃ (H0 : Hp) (r h di dt : Addr) (ai ak : Int → Addr) (η : Hs) (p pm pp : Addr) (μ : Mt) (m : Int) (n : Nat), vs = [.ref r, .ref h, .ref p] ∧
  Cm K T.C_House T.C_Meter H0 H r h di dt ai ak η p pm pp μ ∧ Hin η.ms ai ak ∧ Hw n η ∧ Jh η ∧ Jn n η m μ [] [] ∧ μ.up = true ∧ m ∈ η.ms ∧ n < 100 ∧
  ∀ η' μ' H', Mx [r, h, ai m, p, pm, pp] H H' → Cm K T.C_House T.C_Meter H0 H' r h di dt ai ak η' p pm pp μ' → η'.ms = η.ms → Hw (n + 36) η' → Jh η' → Jn (n + 36) η' m μ' [] [] → μ'.up = true → 1 ≤ bk μ' 3 →
    (∀ m' μ2 to bc, m' ≠ m → Jn n η m' μ2 to bc → Jn (n + 36) η' m' μ2 to bc) → Q .non H'
theorem c__law_filled (T : Tx K mg) : Cl P w K mg base 6 "_law_filled" (spFilled T) [] := by
  refine T.f__law_filled.cl sc__law_filled (fun vs H Q E h => ?_) (fun cdv A outer s H vs Q E hr h => ?_)
  · obtain ⟨_, _, _, _, _, _, _, _, _, _, _, _, _, _, rfl, _⟩ := h
    rfl
  · obtain ⟨H0, r, h, di, dt, ai, ak, η0, p, pm, pp, μ0, m, n, rfl, D, I, W, jh, J, hu, hm, hn, fin⟩ := h
    have hu' := hu_of hr
    refine ⟨_, (pss_one (ps_for (passes_of rfl) rfl (pi_range1 rfl T.n_range (pa_cons (pe_op op_add pe_int (q_call (c__law_drawn T) hr (by decide) rfl (passes_call (takes_of rfl rfl rfl rfl) (fun _ _ _ _ h => h)) (pa_cons (pv 0) (pa_cons pe_int pa_nil)))) pa_nil)) (pg_name (i := 3) sc__law_filled.nd rfl (Or.inl rfl))
      (pss_cons (ps_set (i := 4) sc__law_filled.nd rfl (Or.inl rfl) (pe_op op_add pe_int (pe_op op_mod (q_call (c__law_amount T) hr (by decide) rfl (passes_call (takes_of rfl rfl rfl rfl) (fun _ _ _ _ h => h)) (pa_cons (pv 0) pa_nil)) pe_int)))
      (pss_cons (ps_expr (q_meth (mt_House_buy T) hr (by decide) (pv 1) (passes_call (takes_of rfl rfl rfl rfl) (fun _ _ _ _ h => h)) (pa_cons (pv 4) pa_nil)))
      (pss_cons (ps_set (i := 5) sc__law_filled.nd rfl (Or.inl rfl) (q_meth (mt_House_issue T) hr (by decide) (pv 1) (passes_call (takes_of rfl rfl rfl rfl) (fun _ _ _ _ h => h)) (pa_cons (q_meth0 (mt_Meter_number T) hr (by decide) (pv 2) (passes_call (takes_of rfl rfl rfl rfl) (fun _ _ _ _ h => h))) (pa_cons (pv 4) pa_nil))))
      (pss_cons (ps_set (i := 6) sc__law_filled.nd rfl (Or.inl rfl) (pe_ix (ixT K) (q_meth0 (mt_Meter_sums T) hr (by decide) (pv 2) (passes_call (takes_of rfl rfl rfl rfl) (fun _ _ _ _ h => h))) pe_int (fun _ _ => rfl)))
      (pss_cons (ps_expr (q_meth (mt_Meter_top_up T) hr (by decide) (pv 2) (passes_call (takes_of rfl rfl rfl rfl) (fun _ _ _ _ h => h)) (pa_cons (pv 5) (pa_cons (pe_ix (ixL K) (pe_lst (pa_cons pe_non (pa_cons (q_call (c__law_drawn T) hr (by decide) rfl (passes_call (takes_of rfl rfl rfl rfl) (fun _ _ _ _ h => h)) (pa_cons (pv 0) (pa_cons pe_int pa_nil))) pa_nil))) (q_call (c__law_drawn T) hr (by decide) rfl (passes_call (takes_of rfl rfl rfl rfl) (fun _ _ _ _ h => h)) (pa_cons (pv 0) (pa_cons pe_int pa_nil))) (fun _ _ => rfl)) pa_nil))))
      (pss_cons (ps_if (pt_not (pt_val (q_meth0 (mt_Meter_is_up T) hr (by decide) (pv 2) (passes_call (takes_of rfl rfl rfl rfl) (fun _ _ _ _ h => h))))) (pss_one (ps_expr (q_meth0 (mt_Meter_come_up_d T) hr (by decide) (pv 2) (passes_call (takes_of rfl rfl rfl rfl) (fun _ _ _ _ h => h))))) pss_nil)
      (pss_cons (ps_if (pt_cmpR op_eq (pe_ix (ixT K) (q_meth0 (mt_Meter_sums T) hr (by decide) (pv 2) (passes_call (takes_of rfl rfl rfl rfl) (fun _ _ _ _ h => h))) pe_int (fun _ _ => rfl)) (pv 6) (by first | exact nomark _ | rfl)) (pss_one (ps_expr (q_meth (mt_Meter_top_up_d T) hr (by decide) (pv 2) (passes_call (takes_of rfl rfl rfl rfl) (fun _ _ _ _ h => h)) (pa_cons (q_meth (mt_House_last_codeX T) hr (by decide) (pv 1) (passes_call (takes_of rfl rfl rfl rfl) (fun _ _ _ _ h => h)) (pa_cons (q_meth0 (mt_Meter_number T) hr (by decide) (pv 2) (passes_call (takes_of rfl rfl rfl rfl) (fun _ _ _ _ h => h))) pa_nil)) pa_nil)))) pss_nil)
      (pss_one (ps_expr (q_meth (mt_Meter_stamp_d T) hr (by decide) (pv 2) (passes_call (takes_of rfl rfl rfl rfl) (fun _ _ _ _ h => h)) (pa_cons (pe_op op_add pe_int (q_call (c__law_drawn T) hr (by decide) rfl (passes_call (takes_of rfl rfl rfl rfl) (fun _ _ _ _ h => h)) (pa_cons (pv 0) (pa_cons pe_int pa_nil)))) pa_nil))))))))))))), ?_⟩
    wtm_at "go"
    refine ⟨H0, r, 6, rfl, D.st, by omega, by omega, fun x H1 x0 x1 m1 S1 => ?_⟩
    have D1 := D.mr m1 S1
    have c1 : Mx [r, h, ai m, p, pm, pp] H H1 := m1.mono (by simp)
    clear D m1 S1
    wtm_at "go"
    refine g_forR (fun i σ' H' => ∃ η' μ' x3 x4 x5 x6, σ' = [some (.ref r), some (.ref h), some (.ref p), x3, x4, x5, x6] ∧ Mx [r, h, ai m, p, pm, pp] H H' ∧ Cm K T.C_House T.C_Meter H0 H' r h di dt ai ak η' p pm pp μ' ∧ η'.ms = η0.ms ∧ Hw (n + 6 * i) η' ∧ Jh η' ∧ Jn (n + 6 * i) η' m μ' [] [] ∧ μ'.up = true ∧ (i = 0 ∨ 1 ≤ bk μ' 3) ∧ ∀ m' μ2 to bc, m' ≠ m → Jn n η0 m' μ2 to bc → Jn (n + 6 * i) η' m' μ2 to bc)
      ⟨η0, μ0, none, none, none, none, rfl, c1, D1, rfl, W, jh, J, hu, .inl rfl, fun _ _ _ _ _ z => z⟩ (fun i σ' H2 hi hP => ?_) (fun σ' H2 hP => ?_)
    · clear D1 c1 W jh J hu
      obtain ⟨η, μ, x3, x4, x5, x6, rfl, c2, D2, ems, W, jh, J, hu, _, oth⟩ := hP
      have hi6 : i < 6 := by omega
      have hm2 : m ∈ η.ms := by rw [ems]; exact hm
      have I2 : Hin η.ms ai ak := by rw [ems]; exact I
      wtm_at "go"
      refine ⟨H0, r, rfl, D2.st, fun b H3 b0 b1 m3 S3 => ?_⟩
      have D3 := D2.mr m3 S3
      have c3 : Mx [r, h, ai m, p, pm, pp] H H3 := c2.trans (m3.mono (by simp))
      have hb : 5 ≤ 5 + b % 90000 ∧ 5 + b % 90000 ≤ 99999 := by omega
      generalize ea : 5 + b % 90000 = a at hb
      have ha : 1 ≤ a ∧ a ≤ 99999 := by omega
      clear D2 m3 S3 c2
      obtain ⟨dxh, obh⟩ := D3.hs.ob
      wtm_at "go"
      rw [ea]
      have hres : resH η (.buy a) = none := by simp [resH, amt_iff.mpr ha]
      refine ⟨h, di, dt, ai, ak, η, a, rfl, D3.hs, fun rf hrf => (by rw [hres] at hrf; cases hrf), fun _ H4 m4 M4 => ?_⟩
      have hS4 : ∀ y ∈ [h], y ∈ ftH h di dt ai ak η.ms := fun y hy => by rw [List.mem_singleton.mp hy]; simp [ftH]
      have D4 := D3.hou m4 hS4 M4 rfl
      have c4 : Mx [r, h, ai m, p, pm, pp] H H4 := c3.trans (m4.mono (by simp))
      have W4 := newH_w W hres
      have jh4 := jh.buy ha.1
      have J4 := J.buy a
      have oth4 : ∀ m' μ2 to bc, m' ≠ m → Jn n η0 m' μ2 to bc → Jn (n + 6 * i) (newH η (.buy a)) m' μ2 to bc := fun m' μ2 to bc ne z => (oth m' μ2 to bc ne z).buy a
      have mon : a ≤ (newH η (.buy a)).money := by
        have := jh.m0
        show a ≤ η.money + a
        omega
      have I4 : Hin (newH η (.buy a)).ms ai ak := I2
      have hm4 : m ∈ (newH η (.buy a)).ms := hm2
      have ems4 : (newH η (.buy a)).ms = η0.ms := ems
      generalize hη4 : newH η (.buy a) = η4 at M4 D4 W4 jh4 J4 oth4 mon I4 hm4 ems4
      clear D3 m4 c3 obh hS4 hres J W jh oth hη4 hm2 I2 ems M4
      obtain ⟨dxh, obh⟩ := D4.hs.ob
      obtain ⟨dxm, obm⟩ := D4.me.ob
      have nm := J4.nm
      wtm_at "go"
      refine ⟨p, pm, pp, μ, rfl, D4.me, ?_⟩
      rw [nm]
      wtm_at "go"
      have hres : resH η4 (.iss m a) = none := by
        simp [resH, hm4, amt_iff.mpr ha]
        omega
      refine ⟨h, di, dt, ai, ak, η4, m, a, n + 6 * i + 1, rfl, D4.hs, I4, W4, by omega, fun rf hrf => (by rw [hres] at hrf; cases hrf), fun _ _ t H5 n5 m5 e5 M5 => ?_⟩
      have hS5 : ∀ y ∈ [h, ai m], y ∈ ftH h di dt ai ak η4.ms := fun y hy => by
        simp only [List.mem_cons, List.not_mem_nil, or_false] at hy
        rcases hy with rfl | rfl
        · simp [ftH]
        · exact ftH_i hm4
      have D5 := D4.hou m5 hS5 M5 rfl
      have c5 : Mx [r, h, ai m, p, pm, pp] H H5 := c4.trans (m5.mono (by simp))
      have W5 := newH_w W4 hres
      have jh5 := jh4.iss W4.nd hm4 mon
      have J5 := J4.iss ha
      have hlast : ((newH η4 (.iss m a)).iss m).getLast? = some (issC η4 m a) := by
        rw [show (newH η4 (.iss m a)).iss m = η4.iss m ++ [issC η4 m a] from setM_same]
        simp
      have za : (issC η4 m a).a = a := rfl
      have oth5 : ∀ m' μ2 to bc, m' ≠ m → Jn n η0 m' μ2 to bc → Jn (n + 6 * i) (newH η4 (.iss m a)) m' μ2 to bc := fun m' μ2 to bc ne z => (oth4 m' μ2 to bc ne z).iss_ne a ne
      have hm5 : m ∈ (newH η4 (.iss m a)).ms := hm4
      have ems5 : (newH η4 (.iss m a)).ms = η0.ms := ems4
      generalize hη5 : newH η4 (.iss m a) = η5 at M5 D5 W5 jh5 J5 hlast oth5 hm5 ems5
      have J5 : Jn (n + 6 * i + 1) η5 m μ [issC η4 m a] [] := J5
      generalize hz : issC η4 m a = z at e5 J5 hlast za
      clear D4 m5 c4 obh obm nm hS5 hres J4 W4 jh4 oth4 hη5 hm4 I4 ems4 hz M5 mon
      obtain ⟨dxm, obm⟩ := D5.me.ob
      wtm_at "go"
      refine ⟨p, pm, pp, μ, rfl, D5.me, J5.wf.any, fun l6 H6 n6 m6 e6 => ?_⟩
      have D6 := D5.mx0 m6
      have c6 := c5.trans (m6.of0 (S := [r, h, ai m, p, pm, pp]))
      have t6 := m6.get0 e5
      have ntr := D6.st.nt
      obtain ⟨dx6, ob6⟩ := D6.me.ob
      clear D5 m6 c5 obm e5
      wtm_at "go"
      refine ⟨H0, r, 12, rfl, D6.st, by omega, by omega, fun y H7 y0 y1 m7 S7 => ?_⟩
      have D7 := D6.mr m7 S7
      have c7 : Mx [r, h, ai m, p, pm, pp] H H7 := c6.trans (m7.mono (by simp))
      have t7 := mx_tup m7 ntr t6
      clear D6 m7 c6 ob6 e6 n6 t6 ntr
      wtm_at "go"
      rename_i l8 H8 n8 m8 e8
      have D8 := D7.mx0 m8
      have c8 := c7.trans (m8.of0 (S := [r, h, ai m, p, pm, pp]))
      have t8 := m8.get0 t7
      have nl : l8 ≠ r := D7.st.new n8
      have ntr := D8.st.nt
      refine ⟨H0, r, 2, rfl, D8.st, by omega, by omega, fun w0 H9 w1 w2 m9 S9 => ?_⟩
      have e9 : H9 l8 = some (.lst [.non, .int y]) := m9 _ _ e8 (by simpa using nl)
      have D9 := D8.mr m9 S9
      have c9 : Mx [r, h, ai m, p, pm, pp] H H9 := c8.trans (m9.mono (by simp))
      have t9 := mx_tup m9 ntr t8
      obtain ⟨cut, hcut⟩ : ∃ cut : Option Nat, atI [V.non, V.int y] w0 = some (cutO cut) := by
        have hy : w0 = 0 ∨ w0 = 1 := by omega
        rcases hy with rfl | rfl
        · exact ⟨none, rfl⟩
        · exact ⟨some y.toNat, by rw [show cutO (some y.toNat) = V.int y by simp [cutO]; omega]; rfl⟩
      clear D7 D8 m8 m9 c7 c8 t7 t8 ntr e8 n8 nl S9
      wtm_at "go"
      refine ⟨p, pm, pp, t, μ, z, cut, rfl, D9.me, J5.wf.any, J5.wf.sm (by omega), t9, fun rf hrf => (by rw [(J5.top hu).1] at hrf; cases hrf), fun _ v H10 m10 M10 _ => ?_⟩
      have ntm : NoTup H9 [p, pm, pp] := noTup_all fun y hy => (D9.me.obj y hy).1
      have D10 := D9.met m10 M10
      have c10 : Mx [r, h, ai m, p, pm, pp] H H10 := c9.trans (m10.mono (by simp))
      have B := J5.topU hu cut
      have f0 := J5.gd.c.f0
      generalize hμ1 : (topM μ z cut).2 = μ1 at M10 D10 B
      clear D9 m10 c9 t9 e9 hcut ntm M10 hμ1
      have hA1 : Any μ1.cells := by rcases B with ⟨_, _, q⟩ | ⟨_, _, _, _, q⟩ <;> exact q.wf.any
      have hln1 : μ1.stamps.length < 1000 := by
        rcases B with ⟨_, _, q⟩ | ⟨_, _, _, _, q⟩ <;> have := q.wf.ln <;> omega
      wtm_at "gi"
      refine g_cutS (fun N => ∀ μ2 H', Mx [r, h, ai m, p, pm, pp] H H' → Cm K T.C_House T.C_Meter H0 H' r h di dt ai ak η5 p pm pp μ2 → μ2.up = true → (∀ j, bk μ2 j = bk μ1 j) → (∀ to, Jn (n + 6 * i + 1 + 1) η5 m μ1 to [] → Jn (n + 6 * i + 3) η5 m μ2 to []) → N [some (.ref r), some (.ref h), some (.ref p), some (.int (0 + (i : Int))), some (.int a), some (.ref t), some (.int (bk μ 4))] H') (fun N hN => ?_) (fun μ2 H11 c11 D11 u2 b2 J2 => ?_)
      · obtain ⟨dxm, obm⟩ := D10.me.ob
        wtm_at "go"
        refine ⟨p, pm, pp, μ1, rfl, D10.me, ?_⟩
        wtm_at "go"
        refine g_ite (fun eu => ?_) (fun eu => ?_)
        · have eu : μ1.up = false := by simpa using eu
          wtm_at "go"
          refine ⟨p, pm, pp, μ1, none, rfl, D10.me, hA1, hln1, (fun z => by rw [eu] at z; cases z), fun _ v H12 m12 M12 _ => ?_⟩
          wtm_at "go"
          exact hN _ _ (c10.trans (m12.mono (by simp))) (D10.met m12 M12) (up_none μ1) (up_bank μ1 none) fun to q => q.up eu none
        · have eu : μ1.up = true := by simpa using eu
          wtm_at "go"
          exact hN μ1 _ c10 D10 eu (fun _ => rfl) fun to q => q.mono (by omega)
      clear D10 c10 hA1 hln1
      wtm_at "gi"
      refine g_cutS (fun N => ∀ μ3 H', Mx [r, h, ai m, p, pm, pp] H H' → Cm K T.C_House T.C_Meter H0 H' r h di dt ai ak η5 p pm pp μ3 → μ3.up = true → 5 ≤ bk μ3 3 → Jn (n + 6 * i + 4) η5 m μ3 [] [] → N [some (.ref r), some (.ref h), some (.ref p), some (.int (0 + (i : Int))), some (.int a), some (.ref t), some (.int (bk μ 4))] H') (fun N hN => ?_) (fun μ3 H12 c12 D12 u3 f3 J3 => ?_)
      · obtain ⟨dxm, obm⟩ := D11.me.ob
        have hA2 : Any μ2.cells := by rcases B with ⟨_, _, q⟩ | ⟨_, _, _, _, q⟩ <;> exact (J2 _ q).wf.any
        wtm_at "go"
        refine ⟨p, pm, pp, μ2, rfl, D11.me, hA2, fun l12 H12 n12 m12 e12 => ?_⟩
        have D12 := D11.mx0 m12
        have c12 := c11.trans (m12.of0 (S := [r, h, ai m, p, pm, pp]))
        clear D11 m12 c11 obm
        wtm_at "go"
        rcases B with ⟨_, b1, q⟩ | ⟨b12, b13, b14, _, q⟩
        · have q2 := J2 _ q
          refine g_yes (by simp [b2, b1]) ?_
          obtain ⟨dxh, obh⟩ := D12.hs.ob
          obtain ⟨dxm, obm⟩ := D12.me.ob
          wtm_at "go"
          refine ⟨p, pm, pp, μ2, rfl, D12.me, ?_⟩
          rw [q2.nm]
          wtm_at "go"
          refine ⟨h, di, dt, ai, ak, η5, m, z, rfl, D12.hs, hm5, hlast, fun t2 H13 m13 e13 => ?_⟩
          have D13 := D12.mx0 m13
          have c13 := c12.trans (m13.of0 (S := [r, h, ai m, p, pm, pp]))
          clear D12 m13 c12 obh obm e12 n12
          wtm_at "go"
          refine ⟨p, pm, pp, t2, μ2, z, none, rfl, D13.me, hA2, q2.wf.sm (by omega), e13, fun rf hrf => (by rw [(q2.top u2).1] at hrf; cases hrf), fun _ v H14 m14 M14 _ => ?_⟩
          wtm_at "go"
          rcases q2.topU u2 none with ⟨z1, _⟩ | ⟨_, t3, _, tu, tj⟩
          · exact absurd rfl z1
          · exact hN _ _ (c13.trans (m14.mono (by simp))) (D13.met m14 M14) tu (by rw [t3, b2, b1]; omega) (tj.mono (by omega))
        · refine g_no (by simp [b2, b14]; omega) ?_
          wtm_at "go"
          exact hN μ2 _ c12 D12 u2 (by rw [b2, b13]; omega) ((J2 _ q).mono (by omega))
      clear D11 c11 B b2 J2 u2
      obtain ⟨dxm, obm⟩ := D12.me.ob
      wtm_at "go"
      refine ⟨H0, r, 3, rfl, D12.st, by omega, by omega, fun y H13 y0 y1 m13 S13 => ?_⟩
      have D13 := D12.mr m13 S13
      have c13 : Mx [r, h, ai m, p, pm, pp] H H13 := c12.trans (m13.mono (by simp))
      have hr3 := stampR_ok (a := 1 + y) u3 (by omega) (by omega)
      have ln3 := J3.wf.ln
      clear D12 m13 c12 obm
      wtm_at "go"
      refine ⟨p, pm, pp, μ3, 1 + y, none, rfl, D13.me, J3.wf.any, by omega, fun rf hrf => (by rw [hr3] at hrf; cases hrf), fun _ v H14 m14 M14 _ => ?_⟩
      have sb := stamp_bank (a := 1 + y) J3.wf.any
      wtm_at "go"
      refine ⟨η5, _, _, _, _, _, rfl, c13.trans (m14.mono (by simp)), D13.met m14 M14, ems5, W5.le (by omega), jh5, (J3.stamp hr3 none).mono (by omega), sb.2.trans u3, .inr (by rw [sb.1]; omega), fun m' μ2 to bc ne q => (oth5 m' μ2 to bc ne q).mono (by omega)⟩
    · obtain ⟨η, μ, x3, x4, x5, x6, rfl, c2, D2, ems, W, jh, J, hu, hf, oth⟩ := hP
      wtm_at "go"
      exact fin η μ H2 c2 D2 ems (W.le (by omega)) jh (J.mono (by omega)) hu (by rcases hf with z | z <;> omega) fun m' μ2 to bc ne q => (oth m' μ2 to bc ne q).mono (by omega)
end
end Fk
namespace Fk
open PySem PySem.Spec PyProof.Rows L2
local macro_rules | `(tactic| wtm_at "ln") => `(tactic| first
  | omega
  | (simp only [List.length_cons, List.length_nil, List.length_map, List.length_append, List.length_replicate, List.length_take, List.length_drop, List.length_set]; omega)
  | (with_unfolding_all exact (by decide)))
local macro_rules | `(tactic| wtm_at "ar") => `(tactic| first
  | ((with_reducible show CMulW _ _); (refine' mulS ?_ ?_ <;> omega))
  | ((with_reducible show CDivW _ _); (refine' divS ?_ ?_ <;> omega))
  | ((with_reducible show CPow _ _); exact ⟨by decide, by decide, by decide⟩)
  | (show (0 : Int) < _; omega)
  | (with_unfolding_all exact (by decide)))
local macro_rules | `(tactic| wtm_at "at") => `(tactic| first
  | assumption
  | (refine' cl_atE ?e80 ?h80; (case' e80 => first | exact rfl | assumption); (case' h80 => wtm_at "ln"))
  | exact rfl)
local macro_rules | `(tactic| wtm_at "fr") => `(tactic| first
  | assumption
  | ((with_reducible refine' Mx.free0 ?m99 ?h99); (case' h99 => assumption); (case' m99 => wtm_at "mo")))
local macro_rules | `(tactic| wtm_at "hp") => `(tactic| first
  | assumption
  | ((with_reducible refine' Mx.get0 ?m1 ?h1); (case' m1 => assumption); (case' h1 => wtm_at "hp"))
  | ((with_reducible refine' Mx.get ?m2 ?n2 ?h2); (case' m2 => assumption); (case' n2 => wtm_at "nin"); (case' h2 => wtm_at "hp")))
local macro_rules | `(tactic| wtm_at "sl") => `(tactic| first
  | assumption
  | ((with_reducible refine' Mx.sqL0 ?m96 ?h96); (case' h96 => assumption); (case' m96 => wtm_at "mo"))
  | (refine' SqL.of ?h3; (case' h3 => wtm_at "hp"))
  | ((with_reducible refine' Mx.sqL0 ?m4 ?h4); (case' m4 => assumption); (case' h4 => wtm_at "sl"))
  | ((with_reducible refine' Mx.sqL ?m5 ?n5 ?h5); (case' m5 => assumption); (case' n5 => wtm_at "nin"); (case' h5 => wtm_at "sl")))
local macro_rules | `(tactic| wtm_at "st") => `(tactic| first
  | assumption
  | ((with_reducible refine' Mx.sqT0 ?m97 ?h97); (case' h97 => assumption); (case' m97 => wtm_at "mo"))
  | (refine' SqT.of ?h6; (case' h6 => wtm_at "hp"))
  | ((with_reducible refine' Mx.sqT0 ?m7 ?h7); (case' m7 => assumption); (case' h7 => wtm_at "st"))
  | ((with_reducible refine' Mx.sqT ?m8 ?n8 ?h8); (case' m8 => assumption); (case' n8 => wtm_at "nin"); (case' h8 => wtm_at "st")))
local macro_rules | `(tactic| wtm_at "mx") => `(tactic| first
  | assumption
  | exact Mx.refl
  | ((with_reducible refine' Mx.of0 ?h9); (case' h9 => assumption))
  | ((with_reducible refine' Mx.trans ?h10 ?m10); (case' m10 => first | assumption | ((with_reducible refine' Mx.of0 ?q10); (case' q10 => assumption))); (case' h10 => wtm_at "mx")))
local macro_rules | `(tactic| wtm_at "mo") => `(tactic| first
  | wtm_at "mx"
  | ((with_reducible refine' Mx.own ?m90 ?f90 ?k90); (case' k90 => assumption); (case' f90 => wtm_at "fr"); (case' m90 => wtm_at "mo"))
  | ((with_reducible refine' Mx.trans ?h91 ?m91); (case' m91 => first | assumption | ((with_reducible refine' Mx.of0 ?q91); (case' q91 => assumption))); (case' h91 => wtm_at "mo")))
local macro_rules | `(tactic| wtm_at "ne") => `(tactic| first
  | assumption
  | exact Ne.symm (by assumption)
  | ((with_reducible refine' ne_of_none ?x94 ?y94); (case' y94 => assumption); (case' x94 => wtm_at "hp"))
  | ((with_reducible refine' Ne.symm (ne_of_none ?x95 ?y95)); (case' y95 => assumption); (case' x95 => wtm_at "hp")))
local macro_rules | `(tactic| wtm_at "nin") => `(tactic| first
  | assumption
  | exact List.not_mem_nil
  | ((with_reducible refine' List.not_mem_cons_of_ne_of_not_mem ?h98 ?t98); (case' h98 => wtm_at "ne"); (case' t98 => wtm_at "nin")))
local macro_rules | `(tactic| wtm_at "g1") => `(tactic| first
  | ((with_reducible refine' g_var ?h11 ?k11); (case' h11 => exact rfl))
  | with_reducible refine' g_c ?_
  | with_reducible refine' g_op ?_
  | with_reducible refine' g_I0 ?_
  | ((with_reducible refine' g_I ?c12 ?k12); (case' c12 => wtm_at "ar"))
  | with_reducible refine' g_cons ?_
  | with_reducible refine' g_nil ?_
  | with_reducible refine' g_seq ?_
  | with_reducible refine' g_asg ?_
  | with_reducible refine' g_name ?_
  | with_reducible refine' g_ret ?_
  | with_reducible refine' g_if ?_
  | with_reducible refine' g_test ?_
  | with_reducible refine' g_tB ?_
  | with_reducible refine' g_bl ?_
  | ((with_reducible refine' g_eq ?h13 ?k13); (case' h13 => exact rfl))
  | ((with_reducible refine' g_ne ?h14 ?k14); (case' h14 => exact rfl))
  | with_reducible refine' g_CB ?_
  | with_reducible refine' g_call ?_
  | with_reducible refine' g_drop ?_
  | with_reducible refine' g_next ?_
  | with_reducible refine' g_not ?_
  | with_reducible refine' g_and ?_
  | with_reducible refine' g_or ?_
  | with_reducible refine' g_un ?_
  | with_reducible refine' g_U ?_
  | with_reducible refine' g_tup ?_
  | with_reducible refine' g_lst ?_
  | ((with_reducible refine' g_kNew ?h15 ?k15); (case' h15 => wtm_at "ln"); (case' k15 => intro _ _ _ _ _))
  | ((with_reducible refine' g_ixL ?h16 ?a16 ?k16); (case' h16 => wtm_at "sl"); (case' a16 => wtm_at "at"))
  | ((with_reducible refine' g_ixT ?h17 ?a17 ?k17); (case' h17 => wtm_at "st"); (case' a17 => wtm_at "at"))
  | with_reducible refine' g_slice ?_
  | with_reducible refine' g_part ?_
  | with_reducible refine' g_kPart ?_
  | with_reducible refine' g_noPart ?_
  | ((with_reducible refine' g_slL ?h18 ?k18); (case' h18 => wtm_at "sl"); (case' k18 => intro _ _ _ _ _))
  | ((with_reducible refine' g_cat ?h119 ?h219 ?l19 ?k19); (case' h119 => wtm_at "hp"); (case' h219 => wtm_at "hp"); (case' l19 => wtm_at "ln"); (case' k19 => intro _ _ _ _ _))
  | ((with_reducible refine' g_rep ?h120 ?h220 ?h320 ?l20 ?k20); (case' h120 => wtm_at "hp"); (case' h220 => wtm_at "ln"); (case' h320 => wtm_at "ln"); (case' l20 => wtm_at "ln"); (case' k20 => intro _ _ _ _ _))
  | ((with_reducible refine' g_append ?h21 ?l21 ?k21); (case' h21 => wtm_at "hp"); (case' l21 => wtm_at "ln"); (case' k21 => intro _ _ _))
  | ((with_reducible refine' g_kBM ?h22 ?k22); (case' h22 => wtm_at "sl"))
  | ((with_reducible refine' g_kBM0 ?h23 ?k23); (case' h23 => wtm_at "sl"))
  | ((with_reducible refine' g_kL ?h24 ?k24); (case' h24 => wtm_at "sl"))
  | ((with_reducible refine' g_kR1 ?h125 ?h225 ?k25); (case' h125 => wtm_at "ln"); (case' h225 => wtm_at "ln"))
  | ((with_reducible refine' g_kR2 ?h126 ?h226 ?h326 ?h426 ?k26); (case' h126 => wtm_at "ln"); (case' h226 => wtm_at "ln"); (case' h326 => wtm_at "ln"); (case' h426 => wtm_at "ln"))
  | ((with_reducible refine' g_lenL ?h27 ?k27); (case' h27 => wtm_at "sl"))
  | ((with_reducible refine' g_lenT ?h28 ?k28); (case' h28 => wtm_at "st"))
  | ((with_reducible refine' g_listL ?h29 ?k29); (case' h29 => wtm_at "sl"); (case' k29 => intro _ _ _ _ _))
  | ((with_reducible refine' g_tupleL ?h30 ?k30); (case' h30 => wtm_at "sl"); (case' k30 => intro _ _ _ _ _))
  | with_reducible refine' g_max ?_
  | with_reducible refine' g_min ?_
  | with_reducible refine' g_intB ?_
  | with_reducible refine' g_fld ?_
  | with_reducible refine' g_put ?_
  | with_reducible refine' g_dget ?_
  | with_reducible refine' g_isN ?_
  | with_reducible refine' g_notN ?_
  | with_reducible refine' g_ifE ?_
  | with_reducible refine' g_andV ?_
  | with_reducible refine' g_orV ?_
  | with_reducible refine' g_notV ?_
  | with_reducible refine' g_kIf ?_
  | with_reducible refine' g_chain ?_
  | with_reducible refine' g_kCh ?_
  | with_reducible refine' g_sub ?_
  | ((with_reducible refine' g_setI ?h92 ?e92 ?j92 ?k92); (case' h92 => wtm_at "hp"); (case' e92 => first | exact rfl | assumption); (case' j92 => wtm_at "ln"); (case' k92 => intro _ _ _))
  | ((with_reducible refine' g_setL ?h89 ?i89 ?k89); (case' h89 => wtm_at "hp"); (case' i89 => exact ixE rfl (by wtm_at "ln")); (case' k89 => intro _ _ _))
  | ((with_reducible refine' g_gtup ?h93 ?e93 ?k93); (case' h93 => wtm_at "st"); (case' e93 => exact rfl))
  | with_reducible refine' g_gcons ?_
  | with_reducible refine' g_gnil ?_
  | with_reducible refine' g_par ?_
  | with_reducible refine' g_kPar ?_
  | with_reducible refine' g_meth ?_
  | with_reducible refine' g_bm ?_
  | with_reducible refine' g_bm0 ?_
  | with_reducible refine' g_raise ?_
  | with_reducible refine' g_for ?_
  | with_reducible refine' g_iR1 ?_
  | with_reducible refine' g_iR2 ?_
  | with_reducible refine' g_iL ?_
  | with_reducible refine' g_lc ?_
  | with_reducible refine' g_retN ?_
  | with_reducible refine' g_no (b := false) rfl ?_
  | with_reducible refine' g_yes (b := true) rfl ?_)
local macro_rules | `(tactic| wtm_at "go") => `(tactic| repeat (wtm_at "g1"))
local macro_rules | `(tactic| wtm_at "gs") => `(tactic| repeat ((fail_if_success (with_reducible refine' g_ifE ?_)); wtm_at "g1"))
local macro_rules | `(tactic| wtm_at "gi") => `(tactic| repeat ((fail_if_success (with_reducible refine' g_if ?_)); wtm_at "g1"))
local macro_rules | `(tactic| wtm_at "gr") => `(tactic| repeat ((fail_if_success (with_reducible refine' g_ret ?_)); wtm_at "g1"))
local macro_rules | `(tactic| wtm_at "gq") => `(tactic| repeat ((fail_if_success (with_reducible refine' g_asg ?_)); wtm_at "g1"))

/-! ### the world of the law: a house and two meters -/
structure S2 where
  r : Addr
  h : Addr
  di : Addr
  dt : Addr
  ai : Int → Addr
  ak : Int → Addr
  p : Addr
  pm : Addr
  pp : Addr
  q : Addr
  qm : Addr
  qq : Addr
def S2.sw (x : S2) : S2 := ⟨x.r, x.h, x.di, x.dt, x.ai, x.ak, x.q, x.qm, x.qq, x.p, x.pm, x.pp⟩
structure W2 (K : PySem.W.Frag) (tl : List (Addr × Str)) (L : List (Addr × List V)) (C CM : Addr) (H0 H : Hp) (x : S2) (η : Hs) (μ ν : Mt) : Prop where
  st : StAt K H0 H x.r
  hs : HsAt C H x.h x.di x.dt x.ai x.ak η
  m1 : MetAt K CM H x.p x.pm x.pp μ
  m2 : MetAt K CM H x.q x.qm x.qq ν
  I : Hin η.ms x.ai x.ak
  a1 : Ap H0 x.r x.h x.di x.dt x.ai x.ak η.ms x.p x.pm x.pp
  a2 : Ap H0 x.r x.h x.di x.dt x.ai x.ak η.ms x.q x.qm x.qq
  a3 : ∀ y ∈ [x.p, x.pm, x.pp], y ∉ [x.q, x.qm, x.qq]
  nt : NoTbl H0
  tb : LamX.Tabs tl H
  tp : ∀ z ∈ L, H z.1 = some (.tup z.2)
theorem HsAt.nx {C : Addr} {H : Hp} {h di dt : Addr} {ai ak : Int → Addr} {η : Hs} (M : HsAt C H h di dt ai ak η) : NoX H (ftH h di dt ai ak η.ms) := fun y hy => by
  obtain ⟨⟨dx, ob⟩, di', dt', li, lk⟩ := M
  simp only [ftH, List.mem_cons, List.mem_append, List.mem_map] at hy
  rcases hy with rfl | rfl | rfl | ⟨m, hm, rfl⟩ | ⟨m, hm, rfl⟩
  · exact noX_ins ob
  · exact noX_dK di'
  · exact noX_dK dt'
  · obtain ⟨us, e, _⟩ := li m hm; exact noX_lst e
  · obtain ⟨us, e, _⟩ := lk m hm; exact noX_lst e
theorem CdL.extn {H H' : Hp} {ms : List Int} {a : Int → Addr} {c : Int → List Cd} (h : CdL H ms a c) (e : LamX.ExtN H H') : CdL H' ms a c := fun j hj => by
  obtain ⟨us, q, d⟩ := h j hj
  exact ⟨us, e _ _ q (fun _ z => nomatch z), d.extn e⟩
theorem HsAt.extn {C : Addr} {H H' : Hp} {h di dt : Addr} {ai ak : Int → Addr} {η : Hs} (M : HsAt C H h di dt ai ak η) (e : LamX.ExtN H H') : HsAt C H' h di dt ai ak η := by
  obtain ⟨⟨dx, ob⟩, di', dt', li, lk⟩ := M
  exact ⟨⟨dx, e _ _ ob (fun _ z => nomatch z)⟩, e _ _ di' (fun _ z => nomatch z), e _ _ dt' (fun _ z => nomatch z), li.extn e, lk.extn e⟩
section
variable {K : PySem.W.Frag} {tl : List (Addr × Str)} {L : List (Addr × List V)} {C CM : Addr} {H0 H H' : Hp} {x : S2} {η η' : Hs} {μ μ' ν : Mt}
theorem W2.sw' (D : W2 K tl L C CM H0 H x η μ ν) : W2 K tl L C CM H0 H x.sw η ν μ := ⟨D.st, D.hs, D.m2, D.m1, D.I, D.a2, D.a1, fun y hy z => D.a3 y z hy, D.nt, D.tb, D.tp⟩
theorem W2.cm (D : W2 K tl L C CM H0 H x η μ ν) : Cm K C CM H0 H x.r x.h x.di x.dt x.ai x.ak η x.p x.pm x.pp μ := ⟨D.st, D.hs, D.m1, D.a1⟩
def S2.ft (x : S2) (ms : List Int) : List Addr := x.r :: (ftH x.h x.di x.dt x.ai x.ak ms ++ [x.p, x.pm, x.pp])
theorem S2.ft_r {x : S2} {ms : List Int} {y : Addr} (h : y ∈ [x.r]) : y ∈ x.ft ms := by rw [List.mem_singleton.mp h]; exact List.mem_cons_self
theorem S2.ft_h {x : S2} {ms : List Int} {y : Addr} (h : y ∈ ftH x.h x.di x.dt x.ai x.ak ms) : y ∈ x.ft ms := List.mem_cons_of_mem _ (List.mem_append_left _ h)
theorem S2.ft_p {x : S2} {ms : List Int} {y : Addr} (h : y ∈ [x.p, x.pm, x.pp]) : y ∈ x.ft ms := List.mem_cons_of_mem _ (List.mem_append_right _ h)
theorem W2.mem (D : W2 K tl L C CM H0 H x η μ ν) {y : Addr} (h : y ∈ x.ft η.ms) : NoTup H [y] ∧ (∀ o, H y = some o → (∀ ps, o ≠ .tbl ps) ∧ ∀ f, o ≠ .ext f) ∧ y ∉ [x.q, x.qm, x.qq] := by
  rcases List.mem_cons.mp h with rfl | h
  · exact ⟨D.st.nt, D.st.nx _ (by simp), fun z => (D.a2.a2 _ z).1 rfl⟩
  · rcases List.mem_append.mp h with h | h
    · exact ⟨(D.hs.obj y h).1, D.hs.nx y h, D.a2.a3 y h⟩
    · exact ⟨(D.m1.obj y h).1, D.m1.nx y h, D.a3 y h⟩
/-- the first meter, the house, what is drawn may be written -/
theorem W2.of {S : List Addr} (D : W2 K tl L C CM H0 H x η μ ν) (m : Mx S H H') (hS : ∀ y ∈ S, y ∈ x.ft η.ms) (c : Cm K C CM H0 H' x.r x.h x.di x.dt x.ai x.ak η' x.p x.pm x.pp μ') (e : η'.ms = η.ms) : W2 K tl L C CM H0 H' x η' μ' ν := by
  have nt : NoTup H S := noTup_all fun y hy => (D.mem (hS y hy)).1
  have nx : NoX H S := fun y hy => (D.mem (hS y hy)).2.1
  have no : ∀ y ∈ [x.q, x.qm, x.qq], y ∉ S := fun y hy z => (D.mem (hS y z)).2.2 hy
  exact ⟨c.st, c.hs, c.me, D.m2.mx m nt (no _ (by simp)) (no _ (by simp)) (no _ (by simp)), by rw [e]; exact D.I, c.ap, by rw [e]; exact D.a2, D.a3, D.nt, Tabs.mx D.tb m nx, fun z hz => mx_tup m nt (D.tp z hz)⟩
theorem W2.mr (D : W2 K tl L C CM H0 H x η μ ν) (m : Mx [x.r] H H') (s : StAt K H0 H' x.r) : W2 K tl L C CM H0 H' x η μ ν := D.of m (fun _ h => S2.ft_r h) (D.cm.mr m s) rfl
theorem W2.met (D : W2 K tl L C CM H0 H x η μ ν) (m : Mx [x.p, x.pm, x.pp] H H') (M : MetAt K CM H' x.p x.pm x.pp μ') : W2 K tl L C CM H0 H' x η μ' ν := D.of m (fun _ h => S2.ft_p h) (D.cm.met m M) rfl
theorem W2.met2 (D : W2 K tl L C CM H0 H x η μ ν) (m : Mx [x.q, x.qm, x.qq] H H') (M : MetAt K CM H' x.q x.qm x.qq μ') : W2 K tl L C CM H0 H' x η μ μ' := (D.sw'.met (x := x.sw) m M).sw'
theorem W2.hou {S : List Addr} (D : W2 K tl L C CM H0 H x η μ ν) (m : Mx S H H') (hS : ∀ y ∈ S, y ∈ ftH x.h x.di x.dt x.ai x.ak η.ms) (M : HsAt C H' x.h x.di x.dt x.ai x.ak η') (e : η'.ms = η.ms) : W2 K tl L C CM H0 H' x η' μ ν :=
  D.of m (fun y h => S2.ft_h (hS y h)) (D.cm.hou m hS M e) e
theorem W2.mx0 (D : W2 K tl L C CM H0 H x η μ ν) (m : Mx [] H H') : W2 K tl L C CM H0 H' x η μ ν := D.of m (fun _ h => by simp at h) (D.cm.mx0 m) rfl
theorem W2.extn (D : W2 K tl L C CM H0 H x η μ ν) (e : LamX.ExtN H H') (t : LamX.Tabs tl H') : W2 K tl L C CM H0 H' x η μ ν :=
  ⟨D.st.extn D.nt e, D.hs.extn e, D.m1.extn e, D.m2.extn e, D.I, D.a1, D.a2, D.a3, D.nt, t, fun z hz => e _ _ (D.tp z hz) fun _ z => nomatch z⟩
theorem W2.add (D : W2 K tl L C CM H0 H x η μ ν) {t : Addr} {xs : List V} (h : H t = some (.tup xs)) : W2 K tl ((t, xs) :: L) C CM H0 H x η μ ν :=
  ⟨D.st, D.hs, D.m1, D.m2, D.I, D.a1, D.a2, D.a3, D.nt, D.tb, fun z hz => by rcases List.mem_cons.mp hz with rfl | hz; exact h; exact D.tp z hz⟩
theorem W2.at (D : W2 K tl L C CM H0 H x η μ ν) {t : Addr} {xs : List V} (h : (t, xs) ∈ L) : H t = some (.tup xs) := D.tp _ h
/-- a place apart from all -/
structure Im2 (H0 : Hp) (x : S2) (ms : List Int) (l : Addr) : Prop where
  i0 : l ≠ x.r ∧ H0 l = none
  i1 : l ∉ ftH x.h x.di x.dt x.ai x.ak ms
  i2 : l ∉ [x.p, x.pm, x.pp]
  i3 : l ∉ [x.q, x.qm, x.qq]
theorem W2.new (D : W2 K tl L C CM H0 H x η μ ν) {l : Addr} (e : H l = none) : Im2 H0 x η.ms l :=
  ⟨⟨D.st.new e, D.st.mx.free0 e⟩, fun z => (D.hs.obj l z).2 e, fun z => (D.m1.obj l z).2 e, fun z => (D.m2.obj l z).2 e⟩
theorem W2.put (D : W2 K tl L C CM H0 H x η μ ν) {l : Addr} {xs : List V} {o : HO} (i : Im2 H0 x η.ms l) (e : H l = some (.lst xs)) : W2 K tl L C CM H0 (upd H l o) x η μ ν := by
  have m : Mx [l] H (upd H l o) := .put (by simp)
  have nt : NoTup H [l] := noTup1 e
  have nx : NoX H [l] := fun y hy => by rw [List.mem_singleton.mp hy]; exact noX_lst e
  have ne : ∀ y, y ≠ l → y ∉ [l] := fun y h => by simpa using h
  have h1 : ∀ y ∈ ftH x.h x.di x.dt x.ai x.ak η.ms, y ∉ [l] := fun y hy => ne y fun z => i.i1 (z ▸ hy)
  have h2 : ∀ y ∈ [x.p, x.pm, x.pp], y ∉ [l] := fun y hy => ne y fun z => i.i2 (z ▸ hy)
  have h3 : ∀ y ∈ [x.q, x.qm, x.qq], y ∉ [l] := fun y hy => ne y fun z => i.i3 (z ▸ hy)
  exact ⟨D.st.mv m (fun y hy => by rw [List.mem_singleton.mp hy]; exact i.i0.2) (ne _ i.i0.1.symm), D.hs.mx m nt h1, D.m1.mx m nt (h2 _ (by simp)) (h2 _ (by simp)) (h2 _ (by simp)), D.m2.mx m nt (h3 _ (by simp)) (h3 _ (by simp)) (h3 _ (by simp)), D.I, D.a1, D.a2, D.a3, D.nt, Tabs.mx D.tb m nx, fun z hz => mx_tup m nt (D.tp z hz)⟩
end
/-! ### a walk over a tuple -/
section
variable {K : PySem.W.Frag} {σ : L2.St} {H : Hp} {Q : VK} {R : It → Hp → Prop}
def kT (K : PySem.W.Frag) (R : It → Hp → Prop) : VK := fun x H1 => ∃ a, x = .ref a ∧ (∃ xs, SqT K H1 a xs) ∧ R (Itt K a) H1
theorem g_iT {tl : TE} (k : tl σ H (kT K R)) : iTup K tl σ H R := k
theorem g_kT {a : Addr} {xs : List V} (h : SqT K H a xs) (k : R (Itt K a) H) : kT K R (.ref a) H := ⟨a, rfl, ⟨xs, h⟩, k⟩
end
theorem eqv_sums (a b c a' b' c' : Int) : PyData.eqv (.tuple [.int a, .int b, .int c]) (.tuple [.int a', .int b', .int c']) = decide (a = a' ∧ b = b' ∧ c = c') := by
  by_cases h1 : a = a' <;> by_cases h2 : b = b' <;> by_cases h3 : c = c' <;> simp [PyData.eqv, PyData.eqvAll, h1, h2, h3]
theorem shaped_sums (a b c : Int) : SeqAt.shaped (.tuple [.int a, .int b, .int c]) = true := by
  simp [SeqAt.shaped, PyData.canLay0, PyData.canLayAll0, PyData.depth, PyData.depthAll]
theorem dp_sums {K : PySem.W.Frag} {H : Hp} {t : Addr} {a b c : Int} (h : SqT K H t [.int a, .int b, .int c]) : Dp K H (.ref t) (.tuple [.int a, .int b, .int c]) := .tup h (.cons (.int _) (.cons (.int _) (.cons (.int _) .nil)))
end Fk
namespace Fk
open PySem PySem.Spec PyProof.Rows L2
local macro_rules | `(tactic| wtm_at "ln") => `(tactic| first
  | omega
  | (simp only [List.length_cons, List.length_nil, List.length_map, List.length_append, List.length_replicate, List.length_take, List.length_drop, List.length_set]; omega)
  | (with_unfolding_all exact (by decide)))
local macro_rules | `(tactic| wtm_at "ar") => `(tactic| first
  | ((with_reducible show CMulW _ _); (refine' mulS ?_ ?_ <;> omega))
  | ((with_reducible show CDivW _ _); (refine' divS ?_ ?_ <;> omega))
  | ((with_reducible show CPow _ _); exact ⟨by decide, by decide, by decide⟩)
  | (show (0 : Int) < _; omega)
  | (with_unfolding_all exact (by decide)))
local macro_rules | `(tactic| wtm_at "at") => `(tactic| first
  | assumption
  | (refine' cl_atE ?e80 ?h80; (case' e80 => first | exact rfl | assumption); (case' h80 => wtm_at "ln"))
  | exact rfl)
local macro_rules | `(tactic| wtm_at "fr") => `(tactic| first
  | assumption
  | ((with_reducible refine' Mx.free0 ?m99 ?h99); (case' h99 => assumption); (case' m99 => wtm_at "mo")))
local macro_rules | `(tactic| wtm_at "hp") => `(tactic| first
  | assumption
  | ((with_reducible refine' Mx.get0 ?m1 ?h1); (case' m1 => assumption); (case' h1 => wtm_at "hp"))
  | ((with_reducible refine' Mx.get ?m2 ?n2 ?h2); (case' m2 => assumption); (case' n2 => wtm_at "nin"); (case' h2 => wtm_at "hp")))
local macro_rules | `(tactic| wtm_at "sl") => `(tactic| first
  | assumption
  | ((with_reducible refine' Mx.sqL0 ?m96 ?h96); (case' h96 => assumption); (case' m96 => wtm_at "mo"))
  | (refine' SqL.of ?h3; (case' h3 => wtm_at "hp"))
  | ((with_reducible refine' Mx.sqL0 ?m4 ?h4); (case' m4 => assumption); (case' h4 => wtm_at "sl"))
  | ((with_reducible refine' Mx.sqL ?m5 ?n5 ?h5); (case' m5 => assumption); (case' n5 => wtm_at "nin"); (case' h5 => wtm_at "sl")))
local macro_rules | `(tactic| wtm_at "st") => `(tactic| first
  | assumption
  | ((with_reducible refine' Mx.sqT0 ?m97 ?h97); (case' h97 => assumption); (case' m97 => wtm_at "mo"))
  | (refine' SqT.of ?h6; (case' h6 => wtm_at "hp"))
  | ((with_reducible refine' Mx.sqT0 ?m7 ?h7); (case' m7 => assumption); (case' h7 => wtm_at "st"))
  | ((with_reducible refine' Mx.sqT ?m8 ?n8 ?h8); (case' m8 => assumption); (case' n8 => wtm_at "nin"); (case' h8 => wtm_at "st")))
local macro_rules | `(tactic| wtm_at "mx") => `(tactic| first
  | assumption
  | exact Mx.refl
  | ((with_reducible refine' Mx.of0 ?h9); (case' h9 => assumption))
  | ((with_reducible refine' Mx.trans ?h10 ?m10); (case' m10 => first | assumption | ((with_reducible refine' Mx.of0 ?q10); (case' q10 => assumption))); (case' h10 => wtm_at "mx")))
local macro_rules | `(tactic| wtm_at "mo") => `(tactic| first
  | wtm_at "mx"
  | ((with_reducible refine' Mx.own ?m90 ?f90 ?k90); (case' k90 => assumption); (case' f90 => wtm_at "fr"); (case' m90 => wtm_at "mo"))
  | ((with_reducible refine' Mx.trans ?h91 ?m91); (case' m91 => first | assumption | ((with_reducible refine' Mx.of0 ?q91); (case' q91 => assumption))); (case' h91 => wtm_at "mo")))
local macro_rules | `(tactic| wtm_at "ne") => `(tactic| first
  | assumption
  | exact Ne.symm (by assumption)
  | ((with_reducible refine' ne_of_none ?x94 ?y94); (case' y94 => assumption); (case' x94 => wtm_at "hp"))
  | ((with_reducible refine' Ne.symm (ne_of_none ?x95 ?y95)); (case' y95 => assumption); (case' x95 => wtm_at "hp")))
local macro_rules | `(tactic| wtm_at "nin") => `(tactic| first
  | assumption
  | exact List.not_mem_nil
  | ((with_reducible refine' List.not_mem_cons_of_ne_of_not_mem ?h98 ?t98); (case' h98 => wtm_at "ne"); (case' t98 => wtm_at "nin")))
local macro_rules | `(tactic| wtm_at "g1") => `(tactic| first
  | ((with_reducible refine' g_var ?h11 ?k11); (case' h11 => exact rfl))
  | with_reducible refine' g_c ?_
  | with_reducible refine' g_op ?_
  | with_reducible refine' g_I0 ?_
  | ((with_reducible refine' g_I ?c12 ?k12); (case' c12 => wtm_at "ar"))
  | with_reducible refine' g_cons ?_
  | with_reducible refine' g_nil ?_
  | with_reducible refine' g_seq ?_
  | with_reducible refine' g_asg ?_
  | with_reducible refine' g_name ?_
  | with_reducible refine' g_ret ?_
  | with_reducible refine' g_if ?_
  | with_reducible refine' g_test ?_
  | with_reducible refine' g_tB ?_
  | with_reducible refine' g_bl ?_
  | ((with_reducible refine' g_eq ?h13 ?k13); (case' h13 => exact rfl))
  | ((with_reducible refine' g_ne ?h14 ?k14); (case' h14 => exact rfl))
  | with_reducible refine' g_CB ?_
  | with_reducible refine' g_call ?_
  | with_reducible refine' g_drop ?_
  | with_reducible refine' g_next ?_
  | with_reducible refine' g_not ?_
  | with_reducible refine' g_and ?_
  | with_reducible refine' g_or ?_
  | with_reducible refine' g_un ?_
  | with_reducible refine' g_U ?_
  | with_reducible refine' g_tup ?_
  | with_reducible refine' g_lst ?_
  | ((with_reducible refine' g_kNew ?h15 ?k15); (case' h15 => wtm_at "ln"); (case' k15 => intro _ _ _ _ _))
  | ((with_reducible refine' g_ixL ?h16 ?a16 ?k16); (case' h16 => wtm_at "sl"); (case' a16 => wtm_at "at"))
  | ((with_reducible refine' g_ixT ?h17 ?a17 ?k17); (case' h17 => wtm_at "st"); (case' a17 => wtm_at "at"))
  | with_reducible refine' g_slice ?_
  | with_reducible refine' g_part ?_
  | with_reducible refine' g_kPart ?_
  | with_reducible refine' g_noPart ?_
  | ((with_reducible refine' g_slL ?h18 ?k18); (case' h18 => wtm_at "sl"); (case' k18 => intro _ _ _ _ _))
  | ((with_reducible refine' g_cat ?h119 ?h219 ?l19 ?k19); (case' h119 => wtm_at "hp"); (case' h219 => wtm_at "hp"); (case' l19 => wtm_at "ln"); (case' k19 => intro _ _ _ _ _))
  | ((with_reducible refine' g_rep ?h120 ?h220 ?h320 ?l20 ?k20); (case' h120 => wtm_at "hp"); (case' h220 => wtm_at "ln"); (case' h320 => wtm_at "ln"); (case' l20 => wtm_at "ln"); (case' k20 => intro _ _ _ _ _))
  | ((with_reducible refine' g_append ?h21 ?l21 ?k21); (case' h21 => wtm_at "hp"); (case' l21 => wtm_at "ln"); (case' k21 => intro _ _ _))
  | ((with_reducible refine' g_kBM ?h22 ?k22); (case' h22 => wtm_at "sl"))
  | ((with_reducible refine' g_kBM0 ?h23 ?k23); (case' h23 => wtm_at "sl"))
  | ((with_reducible refine' g_kL ?h24 ?k24); (case' h24 => wtm_at "sl"))
  | ((with_reducible refine' g_kR1 ?h125 ?h225 ?k25); (case' h125 => wtm_at "ln"); (case' h225 => wtm_at "ln"))
  | ((with_reducible refine' g_kR2 ?h126 ?h226 ?h326 ?h426 ?k26); (case' h126 => wtm_at "ln"); (case' h226 => wtm_at "ln"); (case' h326 => wtm_at "ln"); (case' h426 => wtm_at "ln"))
  | ((with_reducible refine' g_lenL ?h27 ?k27); (case' h27 => wtm_at "sl"))
  | ((with_reducible refine' g_lenT ?h28 ?k28); (case' h28 => wtm_at "st"))
  | ((with_reducible refine' g_listL ?h29 ?k29); (case' h29 => wtm_at "sl"); (case' k29 => intro _ _ _ _ _))
  | ((with_reducible refine' g_tupleL ?h30 ?k30); (case' h30 => wtm_at "sl"); (case' k30 => intro _ _ _ _ _))
  | with_reducible refine' g_max ?_
  | with_reducible refine' g_min ?_
  | with_reducible refine' g_intB ?_
  | with_reducible refine' g_fld ?_
  | with_reducible refine' g_put ?_
  | with_reducible refine' g_dget ?_
  | with_reducible refine' g_isN ?_
  | with_reducible refine' g_notN ?_
  | with_reducible refine' g_ifE ?_
  | with_reducible refine' g_andV ?_
  | with_reducible refine' g_orV ?_
  | with_reducible refine' g_notV ?_
  | with_reducible refine' g_kIf ?_
  | with_reducible refine' g_chain ?_
  | with_reducible refine' g_kCh ?_
  | with_reducible refine' g_sub ?_
  | ((with_reducible refine' g_setI ?h92 ?e92 ?j92 ?k92); (case' h92 => wtm_at "hp"); (case' e92 => first | exact rfl | assumption); (case' j92 => wtm_at "ln"); (case' k92 => intro _ _ _))
  | ((with_reducible refine' g_setL ?h89 ?i89 ?k89); (case' h89 => wtm_at "hp"); (case' i89 => exact ixE rfl (by wtm_at "ln")); (case' k89 => intro _ _ _))
  | ((with_reducible refine' g_gtup ?h93 ?e93 ?k93); (case' h93 => wtm_at "st"); (case' e93 => exact rfl))
  | with_reducible refine' g_gcons ?_
  | with_reducible refine' g_gnil ?_
  | with_reducible refine' g_par ?_
  | with_reducible refine' g_kPar ?_
  | with_reducible refine' g_meth ?_
  | with_reducible refine' g_bm ?_
  | with_reducible refine' g_bm0 ?_
  | with_reducible refine' g_raise ?_
  | with_reducible refine' g_for ?_
  | with_reducible refine' g_iR1 ?_
  | with_reducible refine' g_iR2 ?_
  | with_reducible refine' g_iL ?_
  | with_reducible refine' g_lc ?_
  | with_reducible refine' g_retN ?_
  | with_reducible refine' g_no (b := false) rfl ?_
  | with_reducible refine' g_yes (b := true) rfl ?_)
local macro_rules | `(tactic| wtm_at "go") => `(tactic| repeat (wtm_at "g1"))
local macro_rules | `(tactic| wtm_at "gs") => `(tactic| repeat ((fail_if_success (with_reducible refine' g_ifE ?_)); wtm_at "g1"))
local macro_rules | `(tactic| wtm_at "gi") => `(tactic| repeat ((fail_if_success (with_reducible refine' g_if ?_)); wtm_at "g1"))
local macro_rules | `(tactic| wtm_at "gr") => `(tactic| repeat ((fail_if_success (with_reducible refine' g_ret ?_)); wtm_at "g1"))
local macro_rules | `(tactic| wtm_at "gq") => `(tactic| repeat ((fail_if_success (with_reducible refine' g_asg ?_)); wtm_at "g1"))

def scLC : Scope := match (defBody s_law).getD 14 (.Pass ⟨0, 0, 0, 0⟩) with
  | .If (.Compare (.ListComp _ _ sc _) _ _ _) _ _ _ => sc
  | _ => defScope s_law
/-- the lambdas' name -/
def lamQ : Str := (envOfC "law" (defScope s_law) 0 0 .none).qual ++ "<lambda>"
/-- _law_kind(lambda: ..) within a comprehension: the name told apart -/
theorem q_kindC {X : Cx} {K : PySem.W.Frag} {mg : Str → Option Value} (q : Str) (T : Tx K mg) {c Pt : Addr} {k : Nat} {params : Arguments} {body : Expr} {scope : Scope} {t : XK → TE} {p lpos pos : Pos} (TB : LamX.TabB X.base X.mg c Pt) (hcode : X.env.code = .ref c) (hq : X.env.qual ++ "<lambda>" = q) (hr : Room (k + 2) X.A)
    (L : LamX.LamS X.env.scope scope) (hdef : defaultsOf params X.env = ([], [])) (hbind : ∀ (q : Str) (cl : List (Str × Addr)) (pm cv ctv : Value), bindArgs (PySem.W.kla_fn "<lambda>" q params body scope cl pm cv ctv) ⟨[], []⟩ = pure [])
    (hbody : ∀ (A : Around) (outer : List Env) (s : Shared) (H : Hp) (E : XK) (f c' : Addr), Room k (A.deeper (LamX.lamEnv X scope s.heap.objs.size f c')) → PE (LamX.lamCx X A outer s H E scope f c') body (t E)) (hg : Gl X "_law_kind") (hK : X.K = K := by rfl) (hm : X.mg = mg := by rfl) :
    PE X (.Call (.Name "_law_kind" p) [.Lambda params body scope lpos] [] pos) (LamX.tLam [(Pt, q)] (TKind T) t) := by
  subst hq
  exact q_kind T TB hcode hr L hdef hbind hbody hg hK hm
theorem g_neCode {K : PySem.W.Frag} {H : Hp} {Q : VK} (k : Q (.bl false) H) : rNeD K (.str (Rf.word .code)) (.str "BadCode") H Q := by
  refine g_neD (.str _) (.str _) (by decide +kernel) (by decide +kernel) ?_
  have : (!PyData.eqv (.str (Rf.word .code)) (.str "BadCode")) = false := by decide +kernel
  rw [this]
  exact k
section
variable {P : Program} {w : World} {K : PySem.W.Frag} {mg : Str → Option Value} {base : Heap}
local macro_rules | `(tactic| wtm_at "g1") => `(tactic| first
  | ((with_reducible refine' g_fOwn (by assumption) ?h201 ?k201); (case' h201 => wtm_at "hp"))
  | ((with_reducible refine' g_fKey (by assumption) ?h202 ?k202); (case' h202 => wtm_at "hp"))
  | ((with_reducible refine' g_fMem (by assumption) ?h203 ?k203); (case' h203 => wtm_at "hp"))
  | ((with_reducible refine' g_fPri (by assumption) ?h204 ?k204); (case' h204 => wtm_at "hp"))
  | ((with_reducible refine' g_fAwa (by assumption) ?h205 ?k205); (case' h205 => wtm_at "hp"))
  | ((with_reducible refine' g_pAwa (by assumption) ?h206 ?k206); (case' h206 => wtm_at "hp"); (case' k206 => intro _ _ _))
  | ((with_reducible refine' g_kMeth ?h207 ?l207 ?k207); (case' h207 => wtm_at "hp"); (case' l207 => exact rfl)))

local macro_rules | `(tactic| wtm_at "g1") => `(tactic| first
  | ((with_reducible refine' g_dNum ?h311 ?k311); (case' h311 => wtm_at "hp"))
  | ((with_reducible refine' g_dKey ?h312 ?k312); (case' h312 => wtm_at "hp"))
  | ((with_reducible refine' g_dCe ?h313 ?k313); (case' h313 => wtm_at "hp"))
  | ((with_reducible refine' g_dSt ?h314 ?k314); (case' h314 => wtm_at "hp"))
  | ((with_reducible refine' g_dUp ?h315 ?k315); (case' h315 => wtm_at "hp"))
  | ((with_reducible refine' g_kDGetS ?h301 ?l301 ?k301); (case' h301 => wtm_at "hp"); (case' l301 => exact rfl))
  | (with_reducible refine' g_dput ?_)
  | (with_reducible refine' g_iK ?_)
  | ((with_reducible refine' g_disp ?k305); (case' k305 => intro _ _ _ _ _))
  | (with_reducible refine' g_pcons ?_)
  | (with_reducible refine' g_pnil ?_)
  | ((with_reducible refine' g_kDisp ?h306 ?e306 ?f306 ?l306 ?k306); (case' h306 => wtm_at "hp"); (case' e306 => exact rfl); (case' f306 => exact rfl); (case' l306 => wtm_at "ln"); (case' k306 => intro _ _ _))
  | ((with_reducible refine' g_pUp ?h302 ?k302); (case' h302 => wtm_at "hp"); (case' k302 => intro _ _ _))
  | ((with_reducible refine' g_pSt ?h303 ?k303); (case' h303 => wtm_at "hp"); (case' k303 => intro _ _ _))
  | ((with_reducible refine' g_pCe ?h304 ?k304); (case' h304 => wtm_at "hp"); (case' k304 => intro _ _ _)))

local macro_rules | `(tactic| wtm_at "g1") => `(tactic| first
  | ((with_reducible refine' g_hKey (by assumption) ?h501 ?k501); (case' h501 => wtm_at "hp"))
  | ((with_reducible refine' g_hMon (by assumption) ?h502 ?k502); (case' h502 => wtm_at "hp"))
  | ((with_reducible refine' g_hSpe (by assumption) ?h503 ?k503); (case' h503 => wtm_at "hp"))
  | ((with_reducible refine' g_hIss (by assumption) ?h504 ?k504); (case' h504 => wtm_at "hp"))
  | ((with_reducible refine' g_hTak (by assumption) ?h505 ?k505); (case' h505 => wtm_at "hp"))
  | ((with_reducible refine' g_hpMon (by assumption) ?h506 ?k506); (case' h506 => wtm_at "hp"); (case' k506 => intro _ _ _))
  | ((with_reducible refine' g_hpSpe (by assumption) ?h507 ?k507); (case' h507 => wtm_at "hp"); (case' k507 => intro _ _ _))
  | ((with_reducible refine' g_kMeth ?h508 ?l508 ?k508); (case' h508 => wtm_at "hp"); (case' l508 => exact rfl))
  | ((with_reducible refine' g_kDGetI ?h509 ?l509 ?k509); (case' h509 => wtm_at "hp"); (case' l509 => wtm_at "kv"))
  | (with_reducible refine' g_dni ?_)
  | ((with_reducible refine' g_kDNi ?h510 ?k510); (case' h510 => wtm_at "hp"))
  | (with_reducible refine' g_lenSet ?_))
local macro_rules | `(tactic| wtm_at "kv") => `(tactic| first
  | exact kvO_get (by assumption)
  | exact rfl)

theorem g_kindK (T : Tx K mg) {tl : XK → Hp → VK → Prop} {H : Hp} {Q : VK} (k : tl (fun cls d H' => ∃ r : Rf, cls = .ref (r.at T) ∧ d = none ∧ ∀ H'', Mx [] H' H'' → Q (.str r.word) H'') H Q) : TKind T tl H Q := k
def spLaw (T : Tx K mg) : Sp := fun vs H Q _ => ∃ (a : Addr) (ns : List Int), vs = [.ref a] ∧ SqL K H a (ns.map V.int) ∧ ns.length ≤ 63 ∧ H T.f_law.P = some (.tbl #[]) ∧ ∀ H', Q (.bl true) H'
theorem ok_law (T : Tx K mg) (TB : LamX.TabB base mg T.f_law.c T.f_law.P) : FnOk P w K mg base (L2.CX P w) 8 T.f_law.a T.f_law.d ["_law_script"] (spLaw T) := by
  refine T.f_law.ok sc_law (fun vs H Q E h => ?_) (fun A outer s H vs Q E hr h => ?_)
  · obtain ⟨_, _, rfl, _⟩ := h
    rfl
  · obtain ⟨a, ns, rfl, hS, hl, hT, fin⟩ := h
    refine ⟨_, (pss_cons (ps_set (i := 1) sc_law.nd rfl (Or.inl rfl) (q_call (c__law_start T) hr (by decide) rfl (passes_call (takes_of rfl rfl rfl rfl) (fun _ _ _ _ h => h)) (pa_cons (pv 0) pa_nil)))
      (pss_cons (ps_set (i := 2) sc_law.nd rfl (Or.inl rfl) (q_call (c__law_numbers T) hr (by decide) rfl (passes_call (takes_of rfl rfl rfl rfl) (fun _ _ _ _ h => h)) (pa_cons (pv 1) (pa_cons pe_int pa_nil))))
      (pss_cons (ps_set (i := 3) sc_law.nd rfl (Or.inl rfl) (q_call (c__law_drawn T) hr (by decide) rfl (passes_call (takes_of rfl rfl rfl rfl) (fun _ _ _ _ h => h)) (pa_cons (pv 1) (pa_cons pe_int pa_nil))))
      (pss_cons (ps_set (i := 4) sc_law.nd rfl (Or.inr rfl) (q_make (mk_House T) hr (by decide) rfl (passes_call (takes_of rfl rfl rfl rfl) (fun _ _ _ _ h => h)) (pa_cons (pv 3) (pa_cons (pv 2) pa_nil))))
      (pss_cons (ps_asg (pe_tup (pa_cons (q_make (mk_Meter T) hr (by decide) rfl (passes_call (takes_of rfl rfl rfl rfl) (fun _ _ _ _ h => h)) (pa_cons (pe_ix (ixL K) (pv 2) pe_int (fun _ _ => rfl)) (pa_cons (pv 3) pa_nil))) (pa_cons (q_make (mk_Meter T) hr (by decide) rfl (passes_call (takes_of rfl rfl rfl rfl) (fun _ _ _ _ h => h)) (pa_cons (pe_ix (ixL K) (pv 2) pe_int (fun _ _ => rfl)) (pa_cons (pv 3) pa_nil))) pa_nil))) (pgT K 2 rfl (pgs_cons (pg_name (i := 5) sc_law.nd rfl (Or.inr rfl)) (pgs_cons (pg_name (i := 6) sc_law.nd rfl (Or.inr rfl)) pgs_nil))))
      (pss_cons (ps_expr (q_call (c__law_filled T) hr (by decide) rfl (passes_call (takes_of rfl rfl rfl rfl) (fun _ _ _ _ h => h)) (pa_cons (pv 1) (pa_cons (pv 4) (pa_cons (pv 5) pa_nil)))))
      (pss_cons (ps_expr (q_call (c__law_filled T) hr (by decide) rfl (passes_call (takes_of rfl rfl rfl rfl) (fun _ _ _ _ h => h)) (pa_cons (pv 1) (pa_cons (pv 4) (pa_cons (pv 6) pa_nil)))))
      (pss_cons (ps_set (i := 7) sc_law.nd rfl (Or.inl rfl) (pe_tup (pa_cons (q_meth0 (mt_Meter_sums T) hr (by decide) (pv 5) (passes_call (takes_of rfl rfl rfl rfl) (fun _ _ _ _ h => h))) (pa_cons (q_meth0 (mt_Meter_sums T) hr (by decide) (pv 6) (passes_call (takes_of rfl rfl rfl rfl) (fun _ _ _ _ h => h))) (pa_cons (q_meth0 (mt_House_funds T) hr (by decide) (pv 4) (passes_call (takes_of rfl rfl rfl rfl) (fun _ _ _ _ h => h))) (pa_cons (q_meth0 (mt_House_bought T) hr (by decide) (pv 4) (passes_call (takes_of rfl rfl rfl rfl) (fun _ _ _ _ h => h))) pa_nil))))))
      (pss_cons (ps_set (i := 8) sc_law.nd rfl (Or.inl rfl) (pe_op op_add pe_int (q_call (c__law_drawn T) hr (by decide) rfl (passes_call (takes_of rfl rfl rfl rfl) (fun _ _ _ _ h => h)) (pa_cons (pv 1) (pa_cons (pe_callB (c_min rfl) (by rfl) T.n_min (by decide +kernel) (pa_cons pe_int (pa_cons (pe_ix (ixT K) (q_meth0 (mt_Meter_sums T) hr (by decide) (pv 5) (passes_call (takes_of rfl rfl rfl rfl) (fun _ _ _ _ h => h))) pe_int (fun _ _ => rfl)) pa_nil))) pa_nil)))))
      (pss_cons (ps_set (i := 9) sc_law.nd rfl (Or.inl rfl) (pe_ix (ixL K) (pe_lst (pa_cons pe_non (pa_cons (q_call (c__law_drawn T) hr (by decide) rfl (passes_call (takes_of rfl rfl rfl rfl) (fun _ _ _ _ h => h)) (pa_cons (pv 1) (pa_cons pe_int pa_nil))) pa_nil))) (q_call (c__law_drawn T) hr (by decide) rfl (passes_call (takes_of rfl rfl rfl rfl) (fun _ _ _ _ h => h)) (pa_cons (pv 1) (pa_cons pe_int pa_nil))) (fun _ _ => rfl)))
      (pss_cons (ps_expr (q_meth (mt_Meter_give_back T) hr (by decide) (pv 5) (passes_call (takes_of rfl rfl rfl rfl) (fun _ _ _ _ h => h)) (pa_cons (pv 8) (pa_cons (pv 9) pa_nil))))
      (pss_cons (ps_if (pt_not (pt_val (q_meth0 (mt_Meter_is_up T) hr (by decide) (pv 5) (passes_call (takes_of rfl rfl rfl rfl) (fun _ _ _ _ h => h))))) (pss_one (ps_expr (q_meth0 (mt_Meter_come_up_d T) hr (by decide) (pv 5) (passes_call (takes_of rfl rfl rfl rfl) (fun _ _ _ _ h => h))))) pss_nil)
      (pss_cons (ps_if (pt_cmpR (opEqD K hr.units) (q_meth0 (mt_Meter_sums T) hr (by decide) (pv 5) (passes_call (takes_of rfl rfl rfl rfl) (fun _ _ _ _ h => h))) (pe_ix (ixT K) (pv 7) pe_int (fun _ _ => rfl)) (by first | exact nomark _ | rfl)) (pss_one (ps_expr (q_meth (mt_Meter_give_back_d T) hr (by decide) (pv 5) (passes_call (takes_of rfl rfl rfl rfl) (fun _ _ _ _ h => h)) (pa_cons (pv 8) pa_nil)))) pss_nil)
      (pss_cons (ps_set (i := 10) sc_law.nd rfl (Or.inr rfl) (q_meth0 (mt_Meter_last_backX T) hr (by decide) (pv 5) (passes_call (takes_of rfl rfl rfl rfl) (fun _ _ _ _ h => h))))
      (pss_cons (ps_if (pt_cmpR (opNeD K hr.units) (pe_lc (own := [("_law_meter", 11)]) (g := gName 11) rfl sc_law.nd (piT K (pe_tup (pa_cons (pv 5) (pa_cons (pv 6) pa_nil)))) (blkOk_by (own := [("_law_meter", 11)]) (N := N_law) (sc := defScope s_law) (by decide +kernel)) (fun _ _ _ _ _ => pg_name (i := 11) sc_law.nd rfl (by first | exact Or.inl rfl | exact Or.inr rfl)) (fun _ _ _ _ _ => pts_nil) (fun _ _ _ _ _ => (q_kindC lamQ T TB (by rfl) (by rfl) hr (LamX.lamS_by (sc := relS scLC (defScope s_law)) (by decide +kernel)) (by rfl) (fun _ _ _ _ _ => by rfl) (fun A outer s H E f c2 hr => (q_meth (mt_Meter_top_up_d T) hr (by decide) (pv 11) (passes_call (takes_of rfl rfl rfl rfl) (fun _ _ _ _ h => h)) (pa_cons (pv 10) pa_nil))) (by rfl)))) (pe_lst (pa_cons pe_str (pa_cons pe_str pa_nil))) (by first | exact nomark _ | rfl)) (pss_one (ps_ret pe_bl)) pss_nil)
      (pss_cons (ps_if (PW.pt (pw_or (pt_cmpR op_ne (q_meth (mt_House_take_back T) hr (by decide) (pv 4) (passes_call (takes_of rfl rfl rfl rfl) (fun _ _ _ _ h => h)) (pa_cons (pv 10) pa_nil)) (pv 8) (by first | exact nomark _ | rfl)) (pw_or1 (pt_cmpR (opNeD K hr.units) (q_kind T TB rfl hr (LamX.lamS_by (sc := defScope s_law) (by decide +kernel)) rfl (fun _ _ _ _ _ => rfl) (fun A outer s H E f c2 hr => (q_meth (mt_House_take_back T) hr (by decide) (pv 4) (passes_call (takes_of rfl rfl rfl rfl) (fun _ _ _ _ h => h)) (pa_cons (pv 10) pa_nil))) rfl) pe_str (by first | exact nomark _ | rfl))))) (pss_one (ps_ret pe_bl)) pss_nil)
      (pss_cons (ps_set (i := 12) sc_law.nd rfl (Or.inr rfl) (q_meth (mt_House_issue T) hr (by decide) (pv 4) (passes_call (takes_of rfl rfl rfl rfl) (fun _ _ _ _ h => h)) (pa_cons (q_meth0 (mt_Meter_number T) hr (by decide) (pv 6) (passes_call (takes_of rfl rfl rfl rfl) (fun _ _ _ _ h => h))) (pa_cons (pv 8) pa_nil))))
      (pss_cons (ps_if (PW.pt (pw_or (pt_cmpR (opNeD K hr.units) (q_kind T TB rfl hr (LamX.lamS_by (sc := defScope s_law) (by decide +kernel)) rfl (fun _ _ _ _ _ => rfl) (fun A outer s H E f c2 hr => (q_meth (mt_Meter_top_up_d T) hr (by decide) (pv 5) (passes_call (takes_of rfl rfl rfl rfl) (fun _ _ _ _ h => h)) (pa_cons (pv 12) pa_nil))) rfl) pe_str (by first | exact nomark _ | rfl)) (pw_or1 (pt_cmpR op_ne (q_meth (mt_Meter_top_up_d T) hr (by decide) (pv 6) (passes_call (takes_of rfl rfl rfl rfl) (fun _ _ _ _ h => h)) (pa_cons (q_meth (mt_House_last_codeX T) hr (by decide) (pv 4) (passes_call (takes_of rfl rfl rfl rfl) (fun _ _ _ _ h => h)) (pa_cons (q_meth0 (mt_Meter_number T) hr (by decide) (pv 6) (passes_call (takes_of rfl rfl rfl rfl) (fun _ _ _ _ h => h))) pa_nil)) pa_nil)) (pv 8) (by first | exact nomark _ | rfl))))) (pss_one (ps_ret pe_bl)) pss_nil)
      (pss_cons (ps_if (pt_cmpR (opNeD K hr.units) (q_kind T TB rfl hr (LamX.lamS_by (sc := defScope s_law) (by decide +kernel)) rfl (fun _ _ _ _ _ => rfl) (fun A outer s H E f c2 hr => (q_meth (mt_Meter_top_up_d T) hr (by decide) (pv 6) (passes_call (takes_of rfl rfl rfl rfl) (fun _ _ _ _ h => h)) (pa_cons (pv 12) pa_nil))) rfl) pe_str (by first | exact nomark _ | rfl)) (pss_one (ps_ret pe_bl)) pss_nil)
      (pss_cons (ps_if (pt_cmpR (opNeD K hr.units) (q_kind T TB rfl hr (LamX.lamS_by (sc := defScope s_law) (by decide +kernel)) rfl (fun _ _ _ _ _ => rfl) (fun A outer s H E f c2 hr => (q_meth (mt_House_take_back T) hr (by decide) (pv 4) (passes_call (takes_of rfl rfl rfl rfl) (fun _ _ _ _ h => h)) (pa_cons (pv 12) pa_nil))) rfl) pe_str (by first | exact nomark _ | rfl)) (pss_one (ps_ret pe_bl)) pss_nil)
      (pss_cons (ps_set (i := 13) sc_law.nd rfl (Or.inl rfl) (pe_tup (pa_cons (pe_tup (pa_cons (pe_ix (ixT K) (pe_ix (ixT K) (pv 7) pe_int (fun _ _ => rfl)) pe_int (fun _ _ => rfl)) (pa_cons (pe_op op_sub (pe_ix (ixT K) (pe_ix (ixT K) (pv 7) pe_int (fun _ _ => rfl)) pe_int (fun _ _ => rfl)) (pv 8)) (pa_cons (pe_op op_sub (pe_ix (ixT K) (pe_ix (ixT K) (pv 7) pe_int (fun _ _ => rfl)) pe_int (fun _ _ => rfl)) (pv 8)) pa_nil)))) (pa_cons (pe_ix (ixT K) (pe_ix (ixT K) (pv 7) pe_int (fun _ _ => rfl)) pe_int (fun _ _ => rfl)) pa_nil))))
      (pss_cons (ps_if (PW.pt (pw_or (pt_cmpR (opNeD K hr.units) (pe_tup (pa_cons (q_meth0 (mt_Meter_sums T) hr (by decide) (pv 5) (passes_call (takes_of rfl rfl rfl rfl) (fun _ _ _ _ h => h))) (pa_cons (pe_ix (ixT K) (q_meth0 (mt_Meter_sums T) hr (by decide) (pv 6) (passes_call (takes_of rfl rfl rfl rfl) (fun _ _ _ _ h => h))) pe_int (fun _ _ => rfl)) pa_nil))) (pv 13) (by first | exact nomark _ | rfl)) (pw_or1 (pt_cmpR op_ne (pe_ix (ixT K) (q_meth0 (mt_Meter_sums T) hr (by decide) (pv 6) (passes_call (takes_of rfl rfl rfl rfl) (fun _ _ _ _ h => h))) pe_int (fun _ _ => rfl)) (pe_op op_add (pe_ix (ixT K) (pe_ix (ixT K) (pv 7) pe_int (fun _ _ => rfl)) pe_int (fun _ _ => rfl)) (pv 8)) (by first | exact nomark _ | rfl))))) (pss_one (ps_ret pe_bl)) pss_nil)
      (pss_cons (ps_set (i := 14) sc_law.nd rfl (Or.inl rfl) (q_call (c_accounts T) hr (by decide) rfl (passes_call (takes_of rfl rfl rfl rfl) (fun _ _ _ _ h => h)) (pa_cons (pv 4) (pa_cons (pe_lst (pa_cons (pv 5) (pa_cons (pv 6) pa_nil))) pa_nil))))
      (pss_one (ps_ret (pe_and (pe_cmpR op_eq (pe_ix (ixT K) (pv 14) pe_int (fun _ _ => rfl)) pe_int (by first | exact nomark _ | rfl)) (pe_and (pe_cmpR (opEqD K hr.units) (pe_tup (pa_cons (q_meth0 (mt_House_funds T) hr (by decide) (pv 4) (passes_call (takes_of rfl rfl rfl rfl) (fun _ _ _ _ h => h))) (pa_cons (q_meth0 (mt_House_bought T) hr (by decide) (pv 4) (passes_call (takes_of rfl rfl rfl rfl) (fun _ _ _ _ h => h))) pa_nil))) (pe_slice (slT K) (pv 7) (po_some pe_int) po_none) (by first | exact nomark _ | rfl)) (pe_one (pe_cmpR op_eq (pe_callB (cSumT K rfl) (by rfl) T.n_sum (by decide +kernel) (pa_cons (pe_slice (slT K) (pv 14) (po_some pe_int) po_none) pa_nil)) (q_meth0 (mt_House_bought T) hr (by decide) (pv 4) (passes_call (takes_of rfl rfl rfl rfl) (fun _ _ _ _ h => h))) (by first | exact nomark _ | rfl)))))))))))))))))))))))))))))), ?_⟩
    have T0 : LamX.Tabs [(T.f_law.P, lamQ)] H := fun p hp => by
      rw [List.mem_singleton.mp hp]
      exact LamX.TabS.nil hT
    wtm_at "go"
    refine ⟨a, ns, rfl, hS, hl, fun r H1 n1 m1 S1 => ?_⟩
    obtain ⟨H0, f0, nt0, S1⟩ := S1.cut
    have T1 := Tabs.mx0 T0 m1
    clear m1 T0 hT hS n1 f0
    wtm_at "go"
    refine ⟨H0, r, 2, rfl, S1, by omega, fun ln ms H2 hlen nd hp hb fm m2 S2 e2 => ?_⟩
    have T2 := Tabs.mx T1 m2 S1.nx
    have rln : ln ≠ r := S1.new fm
    have hln : ms.length = 2 := by omega
    clear m2 S1 T1 fm
    wtm_at "go"
    refine ⟨H0, r, 999982, rfl, S2, by omega, by omega, fun ky H3 ky0 ky1 m3 S3 => ?_⟩
    have e3 : H3 ln = some (.lst (ms.map V.int)) := m3 _ _ e2 (by simpa using rln)
    have T3 := Tabs.mx T2 m3 S2.nx
    have hk : 0 ≤ ky ∧ ky ≤ 999981 := by omega
    clear m3 S2 T2 e2
    wtm_at "go"
    refine g_make ?_
    wtm_at "go"
    refine g_kMake fun h dx H4 n4 m4 e4 => ?_
    refine ⟨h, dx, ln, ky, ms, rfl, e4, SqL.of (m4.get0 e3), by omega, by omega, nd, hb, fun di dt ai ak H5 hf m5 M5 I5 => g_kMk ?_⟩
    have c5 : Mx [] H3 H5 := m4.own n4 m5
    have hfr : ∀ y ∈ ftH h di dt ai ak ms, H3 y = none := fun y hy => by
      rcases List.mem_cons.mp hy with rfl | hy
      · exact n4
      · exact m4.free0 (hf y hy)
    have g1 : ∀ y ∈ ftH h di dt ai ak ms, y ≠ r ∧ H0 y = none := fun y hy => ⟨S3.new (hfr y hy), S3.mx.free0 (hfr y hy)⟩
    have S5 := S3.mx0 c5
    have T5 := Tabs.mx0 T3 c5
    have en5 := c5.get0 e3
    clear hf hfr m4 m5 e4 n4 c5 S3 e3 T3
    wtm_at "go"
    refine g_make ?_
    wtm_at "go"
    refine g_kMake fun p dx6 H6 n6 m6 e6 => ?_
    refine ⟨p, dx6, cl ms 0, ky, rfl, e6, fun _ pm pp H7 k1 k2 m7 M7 => g_kMk ?_, fun hv => absurd ⟨hb _ (cl_memX (by omega)), hk⟩ hv⟩
    have c7 : Mx [] H5 H7 := m6.own n6 m7
    have f7 : ∀ y ∈ [p, pm, pp], H5 y = none := fun y hy => by
      simp only [List.mem_cons, List.not_mem_nil, or_false] at hy
      rcases hy with rfl | rfl | rfl
      · exact n6
      · exact m6.free0 k1
      · exact m6.free0 k2
    have en7 := c7.get0 en5
    clear m6 m7 e6 n6 k1 k2
    wtm_at "go"
    refine g_make ?_
    wtm_at "go"
    refine g_kMake fun q dx8 H8 n8 m8 e8 => ?_
    refine ⟨q, dx8, cl ms 1, ky, rfl, e8, fun _ qm qq H9 k1 k2 m9 M9 => g_kMk ?_, fun hv => absurd ⟨hb _ (cl_memX (by omega)), hk⟩ hv⟩
    have c9 : Mx [] H7 H9 := m8.own n8 m9
    have f9 : ∀ y ∈ [q, qm, qq], H7 y = none := fun y hy => by
      simp only [List.mem_cons, List.not_mem_nil, or_false] at hy
      rcases hy with rfl | rfl | rfl
      · exact n8
      · exact m8.free0 k1
      · exact m8.free0 k2
    have c59 := c7.trans c9
    have M59 := M5.mx0 c7
    have D9 : W2 K [(T.f_law.P, lamQ)] [] T.C_House T.C_Meter H0 H9 ⟨r, h, di, dt, ai, ak, p, pm, pp, q, qm, qq⟩ (newHs ky ms) (newMt (cl ms 0) ky) (newMt (cl ms 1) ky) :=
      ⟨S5.mx0 c59, M5.mx0 c59, M7.mx0 c9, M9, I5, ⟨g1, fun y hy => ⟨S5.new (f7 y hy), S5.mx.free0 (f7 y hy)⟩, fun y hy z => (M5.obj y hy).2 (f7 y z)⟩,
        ⟨g1, fun y hy => ⟨(S5.mx0 c7).new (f9 y hy), (S5.mx0 c7).mx.free0 (f9 y hy)⟩, fun y hy z => (M59.obj y hy).2 (f9 y z)⟩, fun y hy z => (M7.obj y hy).2 (f9 y z), nt0, Tabs.mx0 T5 c59, fun z hz => by cases hz⟩
    clear m8 m9 e8 n8 k1 k2 c9 c7 f7 f9 c59 M59 M5 M7 M9 I5 g1 S5 T5 en5 en7 rln nt0
    wtm_at "go"
    rename_i tt H10 n10 m10 e10
    have D := D9.mx0 m10
    clear D9
    clear m10 e10 n10
    generalize hX : (⟨r, h, di, dt, ai, ak, p, pm, pp, q, qm, qq⟩ : S2) = X at D
    have er : r = X.r := by rw [← hX]
    have eh : h = X.h := by rw [← hX]
    have ep : p = X.p := by rw [← hX]
    have eq : q = X.q := by rw [← hX]
    clear hX
    subst er eh ep eq
    have J1 : Jn 0 (newHs ky ms) (cl ms 0) (newMt (cl ms 0) ky) [] [] := newMt_jn hk (hb _ (cl_memX (by omega)))
    have J2 : Jn 0 (newHs ky ms) (cl ms 1) (newMt (cl ms 1) ky) [] [] := newMt_jn hk (hb _ (cl_memX (by omega)))
    have W0 : Hw 0 (newHs ky ms) := newHs_w hk hb nd (by omega)
    have hne : cl ms 1 ≠ cl ms 0 := cl_ne nd (by omega) (by omega) (by omega)
    have mem0 : cl ms 0 ∈ ms := cl_memX (by omega)
    have mem1 : cl ms 1 ∈ ms := cl_memX (by omega)
    refine ⟨H0, X.r, X.h, X.di, X.dt, X.ai, X.ak, newHs ky ms, X.p, X.pm, X.pp, _, cl ms 0, 0, rfl, D.cm, D.I, W0, newHs_jh ky ms, J1, rfl, mem0, by omega, fun η1 μ1 H11 m11 c11 es1 W1 jh1 J1 u1 f1 oth1 => ?_⟩
    have D1 := D.of m11 (fun y hy => ?_) c11 es1
    rotate_left
    · simp only [List.mem_cons, List.not_mem_nil, or_false] at hy
      rcases hy with rfl | rfl | rfl | hy
      · exact S2.ft_r (by simp)
      · exact S2.ft_h (by simp [ftH])
      · exact S2.ft_h (ftH_i mem0)
      · exact S2.ft_p (by simpa using hy)
    have J2 := oth1 _ _ _ _ hne J2
    clear D m11 c11 W0 oth1
    wtm_at "go"
    refine ⟨H0, X.r, X.h, X.di, X.dt, X.ai, X.ak, η1, X.q, X.qm, X.qq, _, cl ms 1, 36, rfl, D1.sw'.cm, D1.I, W1, jh1, J2, rfl, by rw [es1]; exact mem1, by omega, fun η μ2 H12 m12 c12 es W jh J2 u2 f2 oth2 => ?_⟩
    have D := (D1.sw'.of (x := X.sw) m12 (fun y hy => ?_) c12 es).sw'
    rotate_left
    · simp only [List.mem_cons, List.not_mem_nil, or_false] at hy
      rcases hy with rfl | rfl | rfl | hy
      · exact S2.ft_r (x := X.sw) (by simp [S2.sw])
      · exact S2.ft_h (x := X.sw) (by simp [ftH, S2.sw])
      · exact S2.ft_h (x := X.sw) (ftH_i (by rw [es1]; exact mem1))
      · exact S2.ft_p (x := X.sw) (by simpa [S2.sw] using hy)
    have D : W2 K [(T.f_law.P, lamQ)] [] T.C_House T.C_Meter H0 H12 X η μ1 μ2 := D
    have J1 := oth2 _ _ _ _ hne.symm J1
    have J1 : Jn 72 η (cl ms 0) μ1 [] [] := J1
    have J2 : Jn 72 η (cl ms 1) μ2 [] [] := J2
    have W : Hw 72 η := W
    have ems : η.ms = ms := es.trans es1
    clear D1 m12 c12 oth2 jh1 W1 es1 es
    generalize hm1 : cl ms 0 = m1 at J1 hne mem0
    generalize hm2 : cl ms 1 = m2 at J2 hne mem1
    rw [← ems] at mem0 mem1
    have kk := W.kk
    have hl2 : η.ms.length = 2 := by rw [ems]; exact hln
    obtain ⟨dx1, ob1⟩ := D.m1.ob
    wtm_at "go"
    refine ⟨X.p, X.pm, X.pp, μ1, rfl, D.m1, J1.wf.any, fun t1 H13 n13 m13 e13 => ?_⟩
    have D13 := (D.mx0 m13).add e13
    obtain ⟨dx2, ob2⟩ := D13.m2.ob
    clear D m13 ob1 e13 n13
    wtm_at "go"
    refine ⟨X.q, X.qm, X.qq, μ2, rfl, D13.m2, J2.wf.any, fun t2 H14 n14 m14 e14 => ?_⟩
    have D14 := (D13.mx0 m14).add e14
    obtain ⟨dxh, obh⟩ := D14.hs.ob
    clear D13 m14 ob2 e14 n14
    wtm_at "go"
    refine ⟨X.h, X.di, X.dt, X.ai, X.ak, η, rfl, D14.hs, ?_⟩
    wtm_at "go"
    refine ⟨X.h, X.di, X.dt, X.ai, X.ak, η, rfl, D14.hs, ?_⟩
    wtm_at "go"
    rename_i ta H15 n15 m15 e15
    have D15 := (D14.mx0 m15).add e15
    obtain ⟨dx1, ob1⟩ := D15.m1.ob
    clear D14 m15 obh e15 n15
    wtm_at "go"
    refine ⟨X.p, X.pm, X.pp, μ1, rfl, D15.m1, J1.wf.any, fun l16 H16 n16 m16 e16 => ?_⟩
    have D16 := D15.mx0 m16
    clear D15 m16 ob1 n16
    wtm_at "go"
    have hmin : 1 ≤ (if bk μ1 3 < 99999 then bk μ1 3 else (99999 : Int)) ∧ (if bk μ1 3 < 99999 then bk μ1 3 else (99999 : Int)) ≤ 99999 ∧ (if bk μ1 3 < 99999 then bk μ1 3 else (99999 : Int)) ≤ bk μ1 3 := by split <;> omega
    refine ⟨H0, X.r, _, rfl, D16.st, by omega, Int.lt_of_le_of_lt hmin.2.1 (by decide), fun x H17 x0 x1 m17 S17 => ?_⟩
    have D17 := D16.mr m17 S17
    have ha : 1 ≤ 1 + x ∧ 1 + x ≤ 99999 := by omega
    have haf : 1 + x ≤ bk μ1 3 := by omega
    clear D16 m17 S17 e16 x0 x1 hmin
    generalize ham : 1 + x = am at ha haf
    wtm_at "go"
    rw [ham]
    refine ⟨H0, X.r, 12, rfl, D17.st, by omega, by omega, fun y H18 y0 y1 m18 S18 => ?_⟩
    have D18 := D17.mr m18 S18
    clear D17 m18 S18
    wtm_at "go"
    rename_i l19 H19 n19 m19 e19
    have D19 := D18.mx0 m19
    have nl : l19 ≠ X.r := D18.st.new n19
    refine ⟨H0, X.r, 2, rfl, D19.st, by omega, by omega, fun w0 H20 w1 w2 m20 S20 => ?_⟩
    have e20 : H20 l19 = some (.lst [.non, .int y]) := m20 _ _ e19 (by simpa using nl)
    have D20 := D19.mr m20 S20
    obtain ⟨cut, hcut⟩ : ∃ cut : Option Nat, atI [V.non, V.int y] w0 = some (cutO cut) := by
      have hy : w0 = 0 ∨ w0 = 1 := by omega
      rcases hy with rfl | rfl
      · exact ⟨none, rfl⟩
      · exact ⟨some y.toNat, by rw [show cutO (some y.toNat) = V.int y by simp [cutO]; omega]; rfl⟩
    clear D18 D19 m19 m20 e19 n19 nl S20
    obtain ⟨dx1, ob1⟩ := D20.m1.ob
    wtm_at "go"
    have hr1 := stampR_ok u1 ha haf
    refine ⟨X.p, X.pm, X.pp, μ1, am, cut, rfl, D20.m1, J1.wf.any, J1.wf.sm (by omega), fun rf hrf => (by rw [hr1] at hrf; cases hrf), fun _ v H21 m21 M21 _ => ?_⟩
    have D21 := D20.met m21 M21
    have B := J1.backU u1 ha haf cut
    generalize hμ3 : (backM μ1 am cut).2 = μ3 at M21 D21 B
    clear D20 m21 M21 e20 hcut hμ3 ob1
    have hA3 : Any μ3.cells := by rcases B with ⟨_, _, q⟩ | ⟨_, _, _, _, _, _, _, q⟩ <;> exact q.wf.any
    have hln3 : μ3.stamps.length < 1000 := by rcases B with ⟨_, _, q⟩ | ⟨_, _, _, _, _, _, _, q⟩ <;> have := q.wf.ln <;> omega
    wtm_at "gi"
    refine g_cutS (fun N => ∀ μ4 H', W2 K [(T.f_law.P, lamQ)] [(ta, [.ref t1, .ref t2, .int η.money, .int η.spent]), (t2, [.int (bk μ2 2), .int (bk μ2 3), .int (bk μ2 4)]), (t1, [.int (bk μ1 2), .int (bk μ1 3), .int (bk μ1 4)])] T.C_House T.C_Meter H0 H' X η μ4 μ2 → μ4.up = true → (∀ j, bk μ4 j = bk μ3 j) → lastB μ4 = lastB μ3 → (∀ to bc, Jn 73 η m1 μ3 to bc → Jn 74 η m1 μ4 to bc) → N [some (.ref a), some (.ref X.r), some (.ref ln), some (.int ky), some (.ref X.h), some (.ref X.p), some (.ref X.q), some (.ref ta), some (.int am), some (cutO cut), none, none, none, none, none] H') (fun N hN => ?_) (fun μ4 H22 D22 u4 b4 lb4 J4 => ?_)
    · obtain ⟨dxm, obm⟩ := D21.m1.ob
      wtm_at "go"
      refine ⟨X.p, X.pm, X.pp, μ3, rfl, D21.m1, ?_⟩
      wtm_at "go"
      refine g_ite (fun eu => ?_) (fun eu => ?_)
      · have eu : μ3.up = false := by simpa using eu
        wtm_at "go"
        refine ⟨X.p, X.pm, X.pp, μ3, none, rfl, D21.m1, hA3, hln3, (fun z => by rw [eu] at z; cases z), fun _ v H12 m12 M12 _ => ?_⟩
        wtm_at "go"
        exact hN _ _ (D21.met m12 M12) (up_none μ3) (up_bank μ3 none) (lastB_up μ3 none) fun to bc q => q.up eu none
      · have eu : μ3.up = true := by simpa using eu
        wtm_at "go"
        exact hN μ3 _ D21 eu (fun _ => rfl) rfl fun to bc q => q.mono (by omega)
    clear D21 hA3 hln3
    wtm_at "gi"
    refine g_cutS (fun N => ∀ μ5 z H', W2 K [(T.f_law.P, lamQ)] [(ta, [.ref t1, .ref t2, .int η.money, .int η.spent]), (t2, [.int (bk μ2 2), .int (bk μ2 3), .int (bk μ2 4)]), (t1, [.int (bk μ1 2), .int (bk μ1 3), .int (bk μ1 4)])] T.C_House T.C_Meter H0 H' X η μ5 μ2 → μ5.up = true → bk μ5 2 = bk μ1 2 → bk μ5 3 = bk μ1 3 - am → bk μ5 4 = bk μ1 4 - am → lastB μ5 = cdD z → z.a = am → Jn 75 η m1 μ5 [] [z] → N [some (.ref a), some (.ref X.r), some (.ref ln), some (.int ky), some (.ref X.h), some (.ref X.p), some (.ref X.q), some (.ref ta), some (.int am), some (cutO cut), none, none, none, none, none] H') (fun N hN => ?_) (fun μ5 z H23 D23 u5 b52 b53 b54 lb5 za J5 => ?_)
    · obtain ⟨dxm, obm⟩ := D22.m1.ob
      have hA4 : Any μ4.cells := by rcases B with ⟨_, _, q⟩ | ⟨_, _, _, _, _, _, _, q⟩ <;> exact (J4 _ _ q).wf.any
      wtm_at "go"
      refine ⟨X.p, X.pm, X.pp, μ4, rfl, D22.m1, hA4, fun l H24 n24 m24 e24 => ?_⟩
      have D24 := D22.mx0 m24
      clear D22 m24 obm
      have eta := D24.at (t := ta) (.head _)
      have et1 := D24.at (t := t1) (.tail _ (.tail _ (.head _)))
      obtain ⟨dxm, obm⟩ := D24.m1.ob
      wtm_at "go"
      refine g_eqD (dp_sums (SqT.of e24)) (dp_sums (SqT.of et1)) (shaped_sums _ _ _) (shaped_sums _ _ _) ?_
      rw [eqv_sums]
      wtm_at "go"
      rcases B with ⟨_, b3, q⟩ | ⟨b2, b3, b4', _, z, hz, za, q⟩
      · refine g_yes (by simp [b4, b3]) ?_
        have q4 := J4 _ _ q
        have hf4 : am ≤ bk μ4 3 := by rw [b4, b3]; exact haf
        have hr4 := stampR_ok u4 ha hf4
        wtm_at "go"
        refine ⟨X.p, X.pm, X.pp, μ4, am, none, rfl, D24.m1, hA4, q4.wf.sm (by omega), fun rf hrf => (by rw [hr4] at hrf; cases hrf), fun _ v H25 m25 M25 _ => ?_⟩
        wtm_at "go"
        rcases q4.backU u4 ha hf4 none with ⟨z1, _⟩ | ⟨c2, c3, c4, cu, z, hz, za, qj⟩
        · exact absurd rfl z1
        · exact hN _ z _ (D24.met m25 M25) cu (by rw [c2, b4, b3]) (by rw [c3, b4, b3]) (by rw [c4, b4, b3]) hz za qj
      · refine g_no (by simp [b4, b3]; omega) ?_
        wtm_at "go"
        exact hN μ4 z _ D24 u4 (by rw [b4, b2]) (by rw [b4, b3]) (by rw [b4, b4']) (lb4.trans hz) za ((J4 _ _ q).mono (by omega))
    clear D22 B b4 lb4 J4 u4 J1 hr1 u1
    obtain ⟨dx1, ob1⟩ := D23.m1.ob
    have p6 : 0 < bk μ5 6 := by
      have := J5.b6
      simp at this
      omega
    obtain ⟨s1, s2, s3⟩ := J5.wf.sm (by omega)
    have s6 := s3 6
    have s7 := s3 7
    have hz2 : mkCd μ5.key μ5.num (bk μ5 6) (bk μ5 7) 2 = z := by
      unfold lastB at lb5
      rw [if_pos p6] at lb5
      exact cdD_inj lb5
    wtm_at "go"
    refine ⟨X.p, X.pm, X.pp, μ5, rfl, D23.m1, J5.wf.any, (by unfold Bd; omega), (by unfold Bd; omega), (by unfold Bd; omega), (by unfold Bd; omega), p6, fun tb H24 m24 e24 => ?_⟩
    rw [hz2] at e24
    have D24 := (D23.mx0 m24).add e24
    have ez : z = mkCd η.key m1 ((η.tkn m1).length + 1) am 2 := by rw [← za]; exact J5.br.1.1
    have zm : z.m = m1 := by rw [ez]; rfl
    have zc : z.c = (η.tkn m1).length + 1 := by rw [ez]; rfl
    clear D23 m24 e24 ob1 hz2 lb5 p6 s1 s2 s3 s6 s7
    have no1 : topR μ5 z = some .code := top_no u5 (by rw [ez, J5.ky]; exact (bad_kind kk).1)
    have no2 : topR μ2 z = some .code := top_no u2 (bad_meter (by rw [zm, J2.nm]; exact hne.symm))
    wtm_at "go"
    refine g_iT ?_
    wtm_at "go"
    rename_i tt2 H25 n25 m25 e25
    have D25 := (D24.mx0 m25).add e25
    clear D24 m25 n25
    refine g_kT (SqT.of e25) ?_
    intro Dl hDl
    have im := D25.new hDl
    refine lc_tup (xs := [.ref X.p, .ref X.q]) (fun i H' => W2 K [(T.f_law.P, lamQ)] [(tt2, [.ref X.p, .ref X.q]), (tb, z.vs), (ta, [.ref t1, .ref t2, .int η.money, .int η.spent]), (t2, [.int (bk μ2 2), .int (bk μ2 3), .int (bk μ2 4)]), (t1, [.int (bk μ1 2), .int (bk μ1 3), .int (bk μ1 4)])] T.C_House T.C_Meter H0 H' X η μ5 μ2 ∧ H' Dl = some (.lst (List.replicate i (.str "BadCode")))) ⟨D25.mx0 (.new hDl), upd_same⟩ (fun i H' _ hp => SqT.of (hp.1.at (.head _))) (fun i x H' hx hp => ?_) (fun H' hp => ?_)
    · obtain ⟨D26, e26⟩ := hp
      refine g_name ?_
      refine ⟨rfl, ?_⟩
      refine g_yesH ?_
      rw [if_pos rfl]
      refine ⟨D26.tb, fun H27 x27 T27 => ?_⟩
      have D27 := D26.extn x27 T27
      have e27 : H27 Dl = some (.lst (List.replicate i (.str "BadCode"))) := x27 _ _ e26 (fun _ z => nomatch z)
      have ebk := D27.at (t := tb) (.tail _ (.head _))
      clear D26 e26 D25 e25 hDl
      have fin2 : ∀ H28, Mx [] H27 H28 → ∃ acc, H28 Dl = some (.lst acc) ∧ acc.length < sizeLine ∧ W2 K [(T.f_law.P, lamQ)] [(tt2, [.ref X.p, .ref X.q]), (tb, z.vs), (ta, [.ref t1, .ref t2, .int η.money, .int η.spent]), (t2, [.int (bk μ2 2), .int (bk μ2 3), .int (bk μ2 4)]), (t1, [.int (bk μ1 2), .int (bk μ1 3), .int (bk μ1 4)])] T.C_House T.C_Meter H0 (upd H28 Dl (.lst (acc ++ [.str "BadCode"]))) X η μ5 μ2 ∧ upd H28 Dl (.lst (acc ++ [.str "BadCode"])) Dl = some (.lst (List.replicate (i + 1) (.str "BadCode"))) := fun H28 m28 => by
        have hi : i < 2 := (List.getElem?_eq_some_iff.mp hx).1
        exact ⟨_, m28.get0 e27, lineL (by rw [List.length_replicate]; omega), (D27.mx0 m28).put im (m28.get0 e27), by rw [upd_same, List.replicate_succ']⟩
      refine g_kindK T ?_
      have hi : i = 0 ∨ i = 1 := by have : i < 2 := (List.getElem?_eq_some_iff.mp hx).1; omega
      rcases hi with rfl | rfl
      · have ex : x = .ref X.p := (Option.some.inj hx).symm
        subst ex
        obtain ⟨dx1, ob1⟩ := D27.m1.ob
        wtm_at "go"
        refine ⟨X.p, X.pm, X.pp, tb, μ5, z, none, rfl, D27.m1, J5.wf.any, J5.wf.sm (by omega), ebk, fun rf hrf H28 m28 => ⟨rf, rfl, rfl, fun H29 m29 => ?_⟩, fun hn => (by rw [no1] at hn; cases hn)⟩
        rw [no1] at hrf
        cases hrf
        exact fin2 _ (m28.trans m29)
      · have ex : x = .ref X.q := (Option.some.inj hx).symm
        subst ex
        obtain ⟨dx1, ob1⟩ := D27.m2.ob
        wtm_at "go"
        refine ⟨X.q, X.qm, X.qq, tb, μ2, z, none, rfl, D27.m2, J2.wf.any, J2.wf.sm (by omega), ebk, fun rf hrf H28 m28 => ⟨rf, rfl, rfl, fun H29 m29 => ?_⟩, fun hn => (by rw [no2] at hn; cases hn)⟩
        rw [no2] at hrf
        cases hrf
        exact fin2 _ (m28.trans m29)
    obtain ⟨D26, e26⟩ := hp
    clear D25 e25 hDl im no1 no2
    have e26 : H' Dl = some (.lst [.str "BadCode", .str "BadCode"]) := e26
    wtm_at "go"
    rename_i l27 H27 n27 m27 e27
    have D27 := D26.mx0 m27
    have ss : ∀ (H : Hp) (l : Addr), H l = some (.lst [.str "BadCode", .str "BadCode"]) → Dp K H (.ref l) (.list [.str "BadCode", .str "BadCode"]) := fun H l h => .lst (SqL.of h) (.cons (.str _) (.cons (.str _) .nil))
    refine g_neD (ss _ _ (m27.get0 e26)) (ss _ _ e27) (by decide +kernel) (by decide +kernel) ?_
    clear ss e26 m27 e27 n27 D26
    have ebk := D27.at (t := tb) (.tail _ (.head _))
    obtain ⟨dxh, obh⟩ := D27.hs.ob
    obtain ⟨_, hres, J6⟩ := J5.tk mem0
    wtm_at "go"
    refine g_no (by decide +kernel) ?_
    wtm_at "go"
    refine ⟨X.h, X.di, X.dt, X.ai, X.ak, η, tb, z, 75, rfl, D27.hs, D27.I, W.le (by omega), by omega, ebk, fun rf hrf => (by rw [hres] at hrf; cases hrf), fun _ _ H28 m28 M28 => ?_⟩
    have D28 := D27.hou m28 (fun y hy => (by
      simp only [List.mem_cons, List.not_mem_nil, or_false] at hy
      rcases hy with rfl | rfl
      · simp [ftH]
      · exact ftH_k (by rw [zm]; exact mem0))) M28 rfl
    have W6 : Hw 76 (newH η (.tk z)) := newH_w (W.le (by omega)) hres
    have jh6 := jh.tk W.nd (by rw [zm]; exact mem0) (by omega : 0 ≤ z.a)
    have J26 := J2.tk_ne (z := z) (by rw [zm]; exact hne)
    have ms6 : (newH η (.tk z)).ms = η.ms := rfl
    have key6 : (newH η (.tk z)).key = η.key := rfl
    have mo6 : (newH η (.tk z)).money = η.money + am := by rw [← za]; rfl
    have sp6 : (newH η (.tk z)).spent = η.spent := rfl
    have tk6 : (newH η (.tk z)).tkn m1 = η.tkn m1 ++ [z] := by
      show setM η.tkn z.m _ m1 = _
      rw [zm, setM_same]
    have m0 := jh.m0
    generalize newH η (.tk z) = η6 at M28 D28 W6 jh6 J26 ms6 key6 mo6 sp6 tk6 J6
    clear D27 m28 M28 ebk obh J5 hres jh
    have no3 : resH η6 (.tk z) = some .code := tk_no (bad_count (by rw [zm, zc, tk6, List.length_append]; simp; omega))
    wtm_at "go"
    refine g_no (by simp [za]) ?_
    wtm_at "go"
    refine ⟨D28.tb, fun H29 x29 T29 => ?_⟩
    have D29 := D28.extn x29 T29
    have ebk := D29.at (t := tb) (.tail _ (.head _))
    obtain ⟨dxh, obh⟩ := D29.hs.ob
    clear D28 x29 T29
    refine g_kindK T ?_
    wtm_at "go"
    refine ⟨X.h, X.di, X.dt, X.ai, X.ak, η6, tb, z, 76, rfl, D29.hs, D29.I, W6, by omega, ebk, fun rf hrf => ⟨rf, rfl, rfl, fun H30 m30 => ?_⟩, fun hn => (by rw [no3] at hn; cases hn)⟩
    rw [no3] at hrf
    cases hrf
    have D30 := D29.mx0 m30
    clear D29 m30 ebk obh no3
    wtm_at "go"
    refine g_neCode ?_
    obtain ⟨dxh, obh⟩ := D30.hs.ob
    obtain ⟨dx2, ob2⟩ := D30.m2.ob
    wtm_at "go"
    refine ⟨X.q, X.qm, X.qq, μ2, rfl, D30.m2, ?_⟩
    rw [J26.nm]
    wtm_at "go"
    have mem1' : m2 ∈ η6.ms := by rw [ms6]; exact mem1
    have hres : resH η6 (.iss m2 am) = none := by
      simp [resH, mem1', amt_iff.mpr ha]
      omega
    refine ⟨X.h, X.di, X.dt, X.ai, X.ak, η6, m2, am, 76, rfl, D30.hs, D30.I, W6, by omega, fun rf hrf => (by rw [hres] at hrf; cases hrf), fun _ _ tc H31 n31 m31 e31 M31 => ?_⟩
    have D31 := (D30.hou m31 (fun y hy => (by
      simp only [List.mem_cons, List.not_mem_nil, or_false] at hy
      rcases hy with rfl | rfl
      · simp [ftH]
      · exact ftH_i mem1')) M31 rfl).add e31
    have W7 : Hw 77 (newH η6 (.iss m2 am)) := newH_w W6 hres
    have jh7 := jh6.iss W6.nd mem1' (by omega : am ≤ η6.money)
    have J72 := J26.iss ha
    have J71 := J6.iss_ne am hne.symm
    have hlast : ((newH η6 (.iss m2 am)).iss m2).getLast? = some (issC η6 m2 am) := by
      rw [show (newH η6 (.iss m2 am)).iss m2 = η6.iss m2 ++ [issC η6 m2 am] from setM_same]
      simp
    have iss7 : ((newH η6 (.iss m2 am)).iss m2).length = (η6.iss m2).length + 1 := by
      rw [show (newH η6 (.iss m2 am)).iss m2 = η6.iss m2 ++ [issC η6 m2 am] from setM_same, List.length_append]
      rfl
    have ms7 : (newH η6 (.iss m2 am)).ms = η.ms := ms6
    have key7 : (newH η6 (.iss m2 am)).key = η.key := key6
    have mo7 : (newH η6 (.iss m2 am)).money = η.money := by
      show η6.money - am = _
      omega
    have sp7 : (newH η6 (.iss m2 am)).spent = η.spent := sp6
    have J72 : Jn 73 (newH η6 (.iss m2 am)) m2 μ2 [issC η6 m2 am] [] := J72
    generalize newH η6 (.iss m2 am) = η7 at M31 D31 W7 jh7 J72 J71 hlast iss7 ms7 key7 mo7 sp7
    have yd : issC η6 m2 am = mkCd η.key m2 ((η6.iss m2).length + 1) am 1 := by rw [← key6]; rfl
    have ym : (issC η6 m2 am).m = m2 := rfl
    have yc : (issC η6 m2 am).c = (η6.iss m2).length + 1 := rfl
    have ya : (issC η6 m2 am).a = am := rfl
    generalize issC η6 m2 am = y at e31 D31 J72 hlast yd ym yc ya
    clear D30 m31 M31 n31 e31 obh ob2 J26 J6 jh6 W6 hres mem1'
    have no4 : topR μ5 y = some .code := top_no u5 (bad_meter (by rw [ym, J71.nm]; exact hne))
    wtm_at "go"
    refine ⟨D31.tb, fun H32 x32 T32 => ?_⟩
    have D32 := D31.extn x32 T32
    have ecd := D32.at (t := tc) (.head _)
    obtain ⟨dx1, ob1⟩ := D32.m1.ob
    clear D31 x32 T32
    refine g_kindK T ?_
    wtm_at "go"
    refine ⟨X.p, X.pm, X.pp, tc, μ5, y, none, rfl, D32.m1, J71.wf.any, J71.wf.sm (by omega), ecd, fun rf hrf H33 m33 => ⟨rf, rfl, rfl, fun H34 m34 => ?_⟩, fun hn => (by rw [no4] at hn; cases hn)⟩
    rw [no4] at hrf
    cases hrf
    have D34 := D32.mx0 (m33.trans m34)
    clear D32 m33 m34 ecd ob1 no4
    wtm_at "go"
    refine g_neCode ?_
    obtain ⟨dxh, obh⟩ := D34.hs.ob
    obtain ⟨dx2, ob2⟩ := D34.m2.ob
    wtm_at "go"
    refine ⟨X.q, X.qm, X.qq, μ2, rfl, D34.m2, ?_⟩
    rw [J72.nm]
    wtm_at "go"
    refine ⟨X.h, X.di, X.dt, X.ai, X.ak, η7, m2, y, rfl, D34.hs, by rw [ms7]; exact mem1, hlast, fun t3 H35 m35 e35 => ?_⟩
    have D35 := D34.mx0 m35
    clear D34 m35 obh ob2
    wtm_at "go"
    refine ⟨X.q, X.qm, X.qq, t3, μ2, y, none, rfl, D35.m2, J72.wf.any, J72.wf.sm (by omega), e35, fun rf hrf => (by rw [(J72.top u2).1] at hrf; cases hrf), fun _ v H36 m36 M36 d36 => ?_⟩
    have D36 := D35.met2 m36 M36
    have d36 : Dp K H36 v (.int y.a) := d36
    cases d36
    have B := J72.topU u2 none
    generalize (topM μ2 y none).2 = μ6 at M36 D36 B
    obtain ⟨c2, c3, c4, u6, J82⟩ : bk μ6 2 = bk μ2 2 ∧ bk μ6 3 = bk μ2 3 + y.a ∧ bk μ6 4 = bk μ2 4 + y.a ∧ μ6.up = true ∧ Jn 74 η7 m2 μ6 [] [] := by
      rcases B with ⟨z1, _⟩ | q
      · exact absurd rfl z1
      · exact q
    clear D35 m36 M36 e35 B J72 J2
    have t5 := J82.t5
    have no5 : topR μ6 y = some .code := top_no u6 (bad_count (by simp at t5; omega))
    have no6 : resH η7 (.tk y) = some .code := tk_no (by rw [yd, key7]; exact (bad_kind kk).2)
    wtm_at "go"
    refine g_no (by simp [ya]) ?_
    wtm_at "go"
    refine ⟨D36.tb, fun H37 x37 T37 => ?_⟩
    have D37 := D36.extn x37 T37
    have ecd := D37.at (t := tc) (.head _)
    obtain ⟨dx2, ob2⟩ := D37.m2.ob
    clear D36 x37 T37
    refine g_kindK T ?_
    wtm_at "go"
    refine ⟨X.q, X.qm, X.qq, tc, μ6, y, none, rfl, D37.m2, J82.wf.any, J82.wf.sm (by omega), ecd, fun rf hrf H38 m38 => ⟨rf, rfl, rfl, fun H39 m39 => ?_⟩, fun hn => (by rw [no5] at hn; cases hn)⟩
    rw [no5] at hrf
    cases hrf
    have D39 := D37.mx0 (m38.trans m39)
    clear D37 m38 m39 ecd ob2 no5
    wtm_at "go"
    refine g_neCode ?_
    wtm_at "go"
    refine ⟨D39.tb, fun H40 x40 T40 => ?_⟩
    have D40 := D39.extn x40 T40
    have ecd := D40.at (t := tc) (.head _)
    obtain ⟨dxh, obh⟩ := D40.hs.ob
    clear D39 x40 T40
    refine g_kindK T ?_
    wtm_at "go"
    refine ⟨X.h, X.di, X.dt, X.ai, X.ak, η7, tc, y, 77, rfl, D40.hs, D40.I, W7, by omega, ecd, fun rf hrf => ⟨rf, rfl, rfl, fun H41 m41 => ?_⟩, fun hn => (by rw [no6] at hn; cases hn)⟩
    rw [no6] at hrf
    cases hrf
    have D41 := D40.mx0 m41
    clear D40 m41 ecd obh no6
    wtm_at "go"
    refine g_neCode ?_
    have eta := D41.at (t := ta) (.tail _ (.tail _ (.tail _ (.head _))))
    have et2 := D41.at (t := t2) (.tail _ (.tail _ (.tail _ (.tail _ (.head _)))))
    have et1 := D41.at (t := t1) (.tail _ (.tail _ (.tail _ (.tail _ (.tail _ (.head _))))))
    obtain ⟨dx1, ob1⟩ := D41.m1.ob
    wtm_at "go"
    rename_i ti H42 n42 m42 e42 td H43 n43 m43 e43
    have D43 := (((D41.mx0 m42).add e42).mx0 m43).add e43
    clear D41 m42 m43 e42 e43 n42 n43 eta et2 et1 ob1
    refine ⟨X.p, X.pm, X.pp, μ5, rfl, D43.m1, J71.wf.any, fun l44 H44 n44 m44 e44 => ?_⟩
    rw [b52, b53, b54] at e44
    have D44 := (D43.mx0 m44).add e44
    obtain ⟨dx2, ob2⟩ := D44.m2.ob
    clear D43 m44 e44 n44
    wtm_at "go"
    refine ⟨X.q, X.qm, X.qq, μ6, rfl, D44.m2, J82.wf.any, fun l45 H45 n45 m45 e45 => ?_⟩
    rw [c2] at e45
    have D45 := D44.mx0 m45
    clear D44 m45 n45 ob2
    wtm_at "go"
    rename_i l46 H46 n46 m46 e46
    have D46 := D45.mx0 m46
    clear D45 m46 n46 e45
    have e44 := D46.at (t := l44) (.head _)
    have e43 := D46.at (t := td) (.tail _ (.head _))
    have e42 := D46.at (t := ti) (.tail _ (.tail _ (.head _)))
    refine g_neD (d := .tuple [.tuple [.int (bk μ1 2), .int (bk μ1 3 - am), .int (bk μ1 4 - am)], .int (bk μ2 2)]) (e := .tuple [.tuple [.int (bk μ1 2), .int (bk μ1 3 - am), .int (bk μ1 4 - am)], .int (bk μ2 2)]) (.tup (.of e46) (.cons (dp_sums (.of e44)) (.cons (.int _) .nil))) (.tup (.of e43) (.cons (dp_sums (.of e42)) (.cons (.int _) .nil))) (by simp [SeqAt.shaped, PyData.canLay0, PyData.canLayAll0, PyData.depth, PyData.depthAll]) (by simp [SeqAt.shaped, PyData.canLay0, PyData.canLayAll0, PyData.depth, PyData.depthAll]) ?_
    rw [show (PyData.eqv (.tuple [.tuple [.int (bk μ1 2), .int (bk μ1 3 - am), .int (bk μ1 4 - am)], .int (bk μ2 2)]) (.tuple [.tuple [.int (bk μ1 2), .int (bk μ1 3 - am), .int (bk μ1 4 - am)], .int (bk μ2 2)])) = true by simp [PyData.eqv, PyData.eqvAll]]
    clear e44 e43 e42 e46
    obtain ⟨dx2, ob2⟩ := D46.m2.ob
    wtm_at "go"
    refine g_no rfl ?_
    wtm_at "go"
    refine ⟨X.q, X.qm, X.qq, μ6, rfl, D46.m2, J82.wf.any, fun l47 H47 n47 m47 e47 => ?_⟩
    have D47 := D46.mx0 m47
    clear D46 m47 n47 ob2
    have eta := D47.at (t := ta) (.tail _ (.tail _ (.tail _ (.tail _ (.tail _ (.tail _ (.head _)))))))
    have et2 := D47.at (t := t2) (.tail _ (.tail _ (.tail _ (.tail _ (.tail _ (.tail _ (.tail _ (.head _))))))))
    wtm_at "go"
    refine g_no (by simp [c3, ya]) ?_
    clear e47 eta et2
    wtm_at "go"
    rename_i l48 H48 n48 m48 e48
    have D48 := D47.mx0 m48
    clear D47 m48 n48
    have hN : η7.ms.length = 2 := by rw [ms7]; exact hl2
    have cl0 : cl η7.ms 0 = m1 := by rw [ms7, ems]; exact hm1
    have cl1 : cl η7.ms 1 = m2 := by rw [ms7, ems]; exact hm2
    have JJ : ∀ j, j < η7.ms.length → Jn 75 η7 (cl η7.ms j) (match j with | 0 => μ5 | _ => μ6) [] [] := fun j hj => by
      match j, hj with
      | 0, _ => rw [cl0]; exact J71
      | 1, _ => rw [cl1]; exact J82.mono (by omega)
      | j + 2, hj => omega
    obtain ⟨tell, sums⟩ := all_told (to := fun _ => []) (bc := fun _ => []) jh7 JJ
    rw [hN] at tell sums
    have tell : (outS η7 η7.ms - sumN 2 fun j => bk (match j with | 0 => μ5 | _ => μ6) 4) = 0 := tell
    refine ⟨X.h, X.di, X.dt, l48, X.ai, X.ak, η7, 77, 2, (fun j => match j with | 0 => X.p | _ => X.q), (fun j => match j with | 0 => X.pm | _ => X.qm), (fun j => match j with | 0 => X.pp | _ => X.qq), (fun j => match j with | 0 => μ5 | _ => μ6), rfl, D48.hs, W7, by omega, SqL.of e48, by omega, fun j hj => ?_, fun j hj => ?_, fun tf H49 m49 e49 => ?_⟩
    · match j, hj with
      | 0, _ => exact D48.m1
      | 1, _ => exact D48.m2
      | j + 2, hj => omega
    · match j, hj with
      | 0, _ => exact J71.wf.any
      | 1, _ => exact J82.wf.any
      | j + 2, hj => omega
    have D49 := D48.mx0 m49
    have e49 : H49 tf = some (.tup [.int η7.spent, .int η7.money, .int 0, .int (sumN 2 fun j => bk (match j with | 0 => μ5 | _ => μ6) 3), .int (sumN 2 fun j => bk (match j with | 0 => μ5 | _ => μ6) 2)]) := by rw [← tell]; exact e49
    rw [tell] at sums
    clear D48 m49 e48 JJ
    obtain ⟨dxh, obh⟩ := D49.hs.ob
    wtm_at "go"
    refine g_yes (by simp) ?_
    wtm_at "go"
    refine ⟨X.h, X.di, X.dt, X.ai, X.ak, η7, rfl, D49.hs, ?_⟩
    wtm_at "go"
    refine ⟨X.h, X.di, X.dt, X.ai, X.ak, η7, rfl, D49.hs, ?_⟩
    rw [mo7, sp7]
    wtm_at "go"
    rename_i l50 H50 n50 m50 e50
    have D50 := D49.mx0 m50
    have eta := D50.at (t := ta) (.tail _ (.tail _ (.tail _ (.tail _ (.tail _ (.tail _ (.head _)))))))
    refine g_slT (SqT.of eta) (fun h => absurd h.1 (by show ¬ HT.sIx 4 0 (some 2) = 0; decide)) (fun l51 H51 n51 m51 e51 => ?_)
    rw [show (some (2 : Int)) = some ((2 : Nat) : Int) from rfl, cutV_drop] at e51
    have e51 : H51 l51 = some (.tup [.int η.money, .int η.spent]) := e51
    refine g_eqD (d := .tuple [.int η.money, .int η.spent]) (e := .tuple [.int η.money, .int η.spent]) (.tup (.of (m51.get0 e50)) (.cons (.int _) (.cons (.int _) .nil))) (.tup (.of e51) (.cons (.int _) (.cons (.int _) .nil))) (by simp [SeqAt.shaped, PyData.canLay0, PyData.canLayAll0, PyData.depth, PyData.depthAll]) (by simp [SeqAt.shaped, PyData.canLay0, PyData.canLayAll0, PyData.depth, PyData.depthAll]) ?_
    rw [show (PyData.eqv (.tuple [.int η.money, .int η.spent]) (.tuple [.int η.money, .int η.spent])) = true by simp [PyData.eqv, PyData.eqvAll]]
    have e49' := m51.get0 (m50.get0 e49)
    have D51 := D50.mx0 m51
    clear D49 D50 m50 m51 e50 e51 n50 n51 eta e49 obh
    wtm_at "go"
    refine g_slT (SqT.of e49') (fun h => absurd h.1 (by show ¬ HT.sIx 5 0 (some 1) = 0; decide)) (fun l52 H52 n52 m52 e52 => ?_)
    rw [cut_one] at e52
    have hs : [η7.money, 0, (sumN 2 fun j => bk (match j with | 0 => μ5 | _ => μ6) 3), (sumN 2 fun j => bk (match j with | 0 => μ5 | _ => μ6) 2)].sum = η7.spent := by
      simp only [List.sum_cons, List.sum_nil]
      omega
    have D52 := D51.mx0 m52
    obtain ⟨dxh, obh⟩ := D52.hs.ob
    clear D51 m52 n52 e49'
    wtm_at "go"
    refine g_sumT (ns := [η7.money, 0, (sumN 2 fun j => bk (match j with | 0 => μ5 | _ => μ6) 3), (sumN 2 fun j => bk (match j with | 0 => μ5 | _ => μ6) 2)]) (SqT.of e52) ?_
    rw [hs]
    wtm_at "go"
    refine ⟨X.h, X.di, X.dt, X.ai, X.ak, η7, rfl, D52.hs, ?_⟩
    wtm_at "go"
    rw [show decide (V.int η7.spent = V.int η7.spent) = true by simp]
    exact fin _
end
end Fk
namespace Fk
open PySem PySem.Spec PyProof.Rows L2
local macro_rules | `(tactic| wtm_at "ln") => `(tactic| first
  | omega
  | (simp only [List.length_cons, List.length_nil, List.length_map, List.length_append, List.length_replicate, List.length_take, List.length_drop, List.length_set]; omega)
  | (with_unfolding_all exact (by decide)))
local macro_rules | `(tactic| wtm_at "ar") => `(tactic| first
  | ((with_reducible show CMulW _ _); (refine' mulS ?_ ?_ <;> omega))
  | ((with_reducible show CDivW _ _); (refine' divS ?_ ?_ <;> omega))
  | ((with_reducible show CPow _ _); exact ⟨by decide, by decide, by decide⟩)
  | (show (0 : Int) < _; omega)
  | (with_unfolding_all exact (by decide)))
local macro_rules | `(tactic| wtm_at "at") => `(tactic| first
  | assumption
  | (refine' cl_atE ?e80 ?h80; (case' e80 => first | exact rfl | assumption); (case' h80 => wtm_at "ln"))
  | exact rfl)
local macro_rules | `(tactic| wtm_at "fr") => `(tactic| first
  | assumption
  | ((with_reducible refine' Mx.free0 ?m99 ?h99); (case' h99 => assumption); (case' m99 => wtm_at "mo")))
local macro_rules | `(tactic| wtm_at "hp") => `(tactic| first
  | assumption
  | ((with_reducible refine' Mx.get0 ?m1 ?h1); (case' m1 => assumption); (case' h1 => wtm_at "hp"))
  | ((with_reducible refine' Mx.get ?m2 ?n2 ?h2); (case' m2 => assumption); (case' n2 => wtm_at "nin"); (case' h2 => wtm_at "hp")))
local macro_rules | `(tactic| wtm_at "sl") => `(tactic| first
  | assumption
  | ((with_reducible refine' Mx.sqL0 ?m96 ?h96); (case' h96 => assumption); (case' m96 => wtm_at "mo"))
  | (refine' SqL.of ?h3; (case' h3 => wtm_at "hp"))
  | ((with_reducible refine' Mx.sqL0 ?m4 ?h4); (case' m4 => assumption); (case' h4 => wtm_at "sl"))
  | ((with_reducible refine' Mx.sqL ?m5 ?n5 ?h5); (case' m5 => assumption); (case' n5 => wtm_at "nin"); (case' h5 => wtm_at "sl")))
local macro_rules | `(tactic| wtm_at "st") => `(tactic| first
  | assumption
  | ((with_reducible refine' Mx.sqT0 ?m97 ?h97); (case' h97 => assumption); (case' m97 => wtm_at "mo"))
  | (refine' SqT.of ?h6; (case' h6 => wtm_at "hp"))
  | ((with_reducible refine' Mx.sqT0 ?m7 ?h7); (case' m7 => assumption); (case' h7 => wtm_at "st"))
  | ((with_reducible refine' Mx.sqT ?m8 ?n8 ?h8); (case' m8 => assumption); (case' n8 => wtm_at "nin"); (case' h8 => wtm_at "st")))
local macro_rules | `(tactic| wtm_at "mx") => `(tactic| first
  | assumption
  | exact Mx.refl
  | ((with_reducible refine' Mx.of0 ?h9); (case' h9 => assumption))
  | ((with_reducible refine' Mx.trans ?h10 ?m10); (case' m10 => first | assumption | ((with_reducible refine' Mx.of0 ?q10); (case' q10 => assumption))); (case' h10 => wtm_at "mx")))
local macro_rules | `(tactic| wtm_at "mo") => `(tactic| first
  | wtm_at "mx"
  | ((with_reducible refine' Mx.own ?m90 ?f90 ?k90); (case' k90 => assumption); (case' f90 => wtm_at "fr"); (case' m90 => wtm_at "mo"))
  | ((with_reducible refine' Mx.trans ?h91 ?m91); (case' m91 => first | assumption | ((with_reducible refine' Mx.of0 ?q91); (case' q91 => assumption))); (case' h91 => wtm_at "mo")))
local macro_rules | `(tactic| wtm_at "ne") => `(tactic| first
  | assumption
  | exact Ne.symm (by assumption)
  | ((with_reducible refine' ne_of_none ?x94 ?y94); (case' y94 => assumption); (case' x94 => wtm_at "hp"))
  | ((with_reducible refine' Ne.symm (ne_of_none ?x95 ?y95)); (case' y95 => assumption); (case' x95 => wtm_at "hp")))
local macro_rules | `(tactic| wtm_at "nin") => `(tactic| first
  | assumption
  | exact List.not_mem_nil
  | ((with_reducible refine' List.not_mem_cons_of_ne_of_not_mem ?h98 ?t98); (case' h98 => wtm_at "ne"); (case' t98 => wtm_at "nin")))
local macro_rules | `(tactic| wtm_at "g1") => `(tactic| first
  | ((with_reducible refine' g_var ?h11 ?k11); (case' h11 => exact rfl))
  | with_reducible refine' g_c ?_
  | with_reducible refine' g_op ?_
  | with_reducible refine' g_I0 ?_
  | ((with_reducible refine' g_I ?c12 ?k12); (case' c12 => wtm_at "ar"))
  | with_reducible refine' g_cons ?_
  | with_reducible refine' g_nil ?_
  | with_reducible refine' g_seq ?_
  | with_reducible refine' g_asg ?_
  | with_reducible refine' g_name ?_
  | with_reducible refine' g_ret ?_
  | with_reducible refine' g_if ?_
  | with_reducible refine' g_test ?_
  | with_reducible refine' g_tB ?_
  | with_reducible refine' g_bl ?_
  | ((with_reducible refine' g_eq ?h13 ?k13); (case' h13 => exact rfl))
  | ((with_reducible refine' g_ne ?h14 ?k14); (case' h14 => exact rfl))
  | with_reducible refine' g_CB ?_
  | with_reducible refine' g_call ?_
  | with_reducible refine' g_drop ?_
  | with_reducible refine' g_next ?_
  | with_reducible refine' g_not ?_
  | with_reducible refine' g_and ?_
  | with_reducible refine' g_or ?_
  | with_reducible refine' g_un ?_
  | with_reducible refine' g_U ?_
  | with_reducible refine' g_tup ?_
  | with_reducible refine' g_lst ?_
  | ((with_reducible refine' g_kNew ?h15 ?k15); (case' h15 => wtm_at "ln"); (case' k15 => intro _ _ _ _ _))
  | ((with_reducible refine' g_ixL ?h16 ?a16 ?k16); (case' h16 => wtm_at "sl"); (case' a16 => wtm_at "at"))
  | ((with_reducible refine' g_ixT ?h17 ?a17 ?k17); (case' h17 => wtm_at "st"); (case' a17 => wtm_at "at"))
  | with_reducible refine' g_slice ?_
  | with_reducible refine' g_part ?_
  | with_reducible refine' g_kPart ?_
  | with_reducible refine' g_noPart ?_
  | ((with_reducible refine' g_slL ?h18 ?k18); (case' h18 => wtm_at "sl"); (case' k18 => intro _ _ _ _ _))
  | ((with_reducible refine' g_cat ?h119 ?h219 ?l19 ?k19); (case' h119 => wtm_at "hp"); (case' h219 => wtm_at "hp"); (case' l19 => wtm_at "ln"); (case' k19 => intro _ _ _ _ _))
  | ((with_reducible refine' g_rep ?h120 ?h220 ?h320 ?l20 ?k20); (case' h120 => wtm_at "hp"); (case' h220 => wtm_at "ln"); (case' h320 => wtm_at "ln"); (case' l20 => wtm_at "ln"); (case' k20 => intro _ _ _ _ _))
  | ((with_reducible refine' g_append ?h21 ?l21 ?k21); (case' h21 => wtm_at "hp"); (case' l21 => wtm_at "ln"); (case' k21 => intro _ _ _))
  | ((with_reducible refine' g_kBM ?h22 ?k22); (case' h22 => wtm_at "sl"))
  | ((with_reducible refine' g_kBM0 ?h23 ?k23); (case' h23 => wtm_at "sl"))
  | ((with_reducible refine' g_kL ?h24 ?k24); (case' h24 => wtm_at "sl"))
  | ((with_reducible refine' g_kR1 ?h125 ?h225 ?k25); (case' h125 => wtm_at "ln"); (case' h225 => wtm_at "ln"))
  | ((with_reducible refine' g_kR2 ?h126 ?h226 ?h326 ?h426 ?k26); (case' h126 => wtm_at "ln"); (case' h226 => wtm_at "ln"); (case' h326 => wtm_at "ln"); (case' h426 => wtm_at "ln"))
  | ((with_reducible refine' g_lenL ?h27 ?k27); (case' h27 => wtm_at "sl"))
  | ((with_reducible refine' g_lenT ?h28 ?k28); (case' h28 => wtm_at "st"))
  | ((with_reducible refine' g_listL ?h29 ?k29); (case' h29 => wtm_at "sl"); (case' k29 => intro _ _ _ _ _))
  | ((with_reducible refine' g_tupleL ?h30 ?k30); (case' h30 => wtm_at "sl"); (case' k30 => intro _ _ _ _ _))
  | with_reducible refine' g_max ?_
  | with_reducible refine' g_min ?_
  | with_reducible refine' g_intB ?_
  | with_reducible refine' g_fld ?_
  | with_reducible refine' g_put ?_
  | with_reducible refine' g_dget ?_
  | with_reducible refine' g_isN ?_
  | with_reducible refine' g_notN ?_
  | with_reducible refine' g_ifE ?_
  | with_reducible refine' g_andV ?_
  | with_reducible refine' g_orV ?_
  | with_reducible refine' g_notV ?_
  | with_reducible refine' g_kIf ?_
  | with_reducible refine' g_chain ?_
  | with_reducible refine' g_kCh ?_
  | with_reducible refine' g_sub ?_
  | ((with_reducible refine' g_setI ?h92 ?e92 ?j92 ?k92); (case' h92 => wtm_at "hp"); (case' e92 => first | exact rfl | assumption); (case' j92 => wtm_at "ln"); (case' k92 => intro _ _ _))
  | ((with_reducible refine' g_setL ?h89 ?i89 ?k89); (case' h89 => wtm_at "hp"); (case' i89 => exact ixE rfl (by wtm_at "ln")); (case' k89 => intro _ _ _))
  | ((with_reducible refine' g_gtup ?h93 ?e93 ?k93); (case' h93 => wtm_at "st"); (case' e93 => exact rfl))
  | with_reducible refine' g_gcons ?_
  | with_reducible refine' g_gnil ?_
  | with_reducible refine' g_par ?_
  | with_reducible refine' g_kPar ?_
  | with_reducible refine' g_meth ?_
  | with_reducible refine' g_bm ?_
  | with_reducible refine' g_bm0 ?_
  | with_reducible refine' g_raise ?_
  | with_reducible refine' g_for ?_
  | with_reducible refine' g_iR1 ?_
  | with_reducible refine' g_iR2 ?_
  | with_reducible refine' g_iL ?_
  | with_reducible refine' g_lc ?_
  | with_reducible refine' g_retN ?_
  | with_reducible refine' g_no (b := false) rfl ?_
  | with_reducible refine' g_yes (b := true) rfl ?_)
local macro_rules | `(tactic| wtm_at "go") => `(tactic| repeat (wtm_at "g1"))
local macro_rules | `(tactic| wtm_at "gs") => `(tactic| repeat ((fail_if_success (with_reducible refine' g_ifE ?_)); wtm_at "g1"))
local macro_rules | `(tactic| wtm_at "gi") => `(tactic| repeat ((fail_if_success (with_reducible refine' g_if ?_)); wtm_at "g1"))
local macro_rules | `(tactic| wtm_at "gr") => `(tactic| repeat ((fail_if_success (with_reducible refine' g_ret ?_)); wtm_at "g1"))
local macro_rules | `(tactic| wtm_at "gq") => `(tactic| repeat ((fail_if_success (with_reducible refine' g_asg ?_)); wtm_at "g1"))
theorem law_at {l : PySem.W.OpenLaw} {w : World} {K : PySem.W.Frag} {mg : Str → Option Value} {h : Heap} {fa : Addr} (T : Tx K mg) (hfa : mg "law" = some (.ref fa)) (hT : h.get? T.f_law.P = some { cls := .none, data := .fields #[] }) (nP : K.lookup T.f_law.P = none) (hC : PySem.W.CodeHd h T.f_law.c T.f_law.P)
    (hB : ∀ (s : Shared) (us : List Value), us.length = (["_law_script"] : List Str).length → BindsTo s T.f_law.d ⟨us, []⟩ ((["_law_script"] : List Str).zip us)) : LamX.LawAtS l w K (L2.CX l.prog w) 8 63 "_law_script" mg fa h := by
  have e : T.f_law.a = fa := by
    have := T.f_law.g.symm.trans hfa
    cases this
    rfl
  subst e
  refine ⟨T.f_law.d, [(T.f_law.c, T.f_law.P)], spLaw T, fun p hp => ?_, fun p hp => ?_, fun p hp => ?_, fun s u => hB s [u] rfl, fun H a ns hl _ hT2 hS => ?_, fun base _ _ TB => ok_law T (TB _ (List.mem_singleton.mpr rfl))⟩
  · rw [List.mem_singleton.mp hp]; exact hT
  · rw [List.mem_singleton.mp hp]; exact nP
  · rw [List.mem_singleton.mp hp]; exact hC
  · exact ⟨a, ns, rfl, hS, hl, hT2 _ (List.mem_singleton.mpr rfl), fun _ => rfl⟩
end Fk
open PySem PySem.W PyProof.Rows
set_option maxRecDepth 100000 in
set_option maxHeartbeats 0 in
theorem hd_test : PySem.Challenge.rw_frankmeter_k11_whole_moved_from_one_to_a.Holds := by
  w_on; o_law; k_head; (case hw => w_witness2)
  k_fill
  refine LamX.walk_ofTs (l := PySem.Challenge.rw_frankmeter_k11_whole_moved_from_one_to_a) (n := 63) (k := 8) (x := "_law_script") (CX := fun w => L2.CX (PySem.Challenge.rw_frankmeter_k11_whole_moved_from_one_to_a).prog w) rfl (by decide) rfl ⟨rfl, by decide, by decide⟩ (fun w h Y => PySem.W.km_in_of Y) ?F ?C
  case C =>
    intro w H s e s2 z
    obtain ⟨_, _, _, _, _, _, _, _, _, _, _, _, z⟩ := z
    exact z
  case F =>
    intro w mg fa h Y KX G hmg
    have hTs := PySem.W.km_tabs_of Y
    refine' Fk.with_co KX G "WHEEL" 999983 ?az1 fun g_WHEEL => ?_
    (case az1 => k_is)
    refine' Fk.with_co KX G "TOP" 1 ?az2 fun g_TOP => ?_
    (case az2 => k_is)
    refine' Fk.with_co KX G "BACK" 2 ?az3 fun g_BACK => ?_
    (case az3 => k_is)
    refine' Fk.with_co KX G "MOST_AMOUNT" 99999 ?az4 fun g_MOST_AMOUNT => ?_
    (case az4 => k_is)
    refine' Fk.with_co KX G "WIDE" 10 ?az5 fun g_WIDE => ?_
    (case az5 => k_is)
    refine' Fk.with_co KX G "TURN" 1 ?az6 fun g_TURN => ?_
    (case az6 => k_is)
    refine' Fk.with_co KX G "RISING" 2 ?az7 fun g_RISING => ?_
    (case az7 => k_is)
    refine' Fk.with_co KX G "FALLING" 3 ?az8 fun g_FALLING => ?_
    (case az8 => k_is)
    refine' Fk.with_co KX G "CREDIT" 4 ?az9 fun g_CREDIT => ?_
    (case az9 => k_is)
    refine' Fk.with_co KX G "TOPS" 5 ?az10 fun g_TOPS => ?_
    (case az10 => k_is)
    refine' Fk.with_co KX G "BACKS" 6 ?az11 fun g_BACKS => ?_
    (case az11 => k_is)
    refine' Fk.with_co KX G "GIVEN" 7 ?az12 fun g_GIVEN => ?_
    (case az12 => k_is)
    refine' Fk.with_co KX G "STAMP" 8 ?az13 fun g_STAMP => ?_
    (case az13 => k_is)
    refine' Fk.with_co KX G "AMOUNT" 9 ?az14 fun g_AMOUNT => ?_
    (case az14 => k_is)
    refine' Fk.with_co KX G "MOST_NUMBER" 9999 ?az15 fun g_MOST_NUMBER => ?_
    (case az15 => k_is)
    refine' Fk.with_co KX G "MOST_KEY" 999981 ?az16 fun g_MOST_KEY => ?_
    (case az16 => k_is)
    refine' Fk.with_co KX G "MOST_METERS" 4 ?az17 fun g_MOST_METERS => ?_
    (case az17 => k_is)
    refine' Fk.with_bl KX G "ValueError" ?az18 fun n_ValueError => ?_
    (case az18 => k_is)
    refine' Fk.with_bl KX G "dict" ?az19 fun n_dict => ?_
    (case az19 => k_is)
    refine' Fk.with_bl KX G "isinstance" ?az20 fun n_isinstance => ?_
    (case az20 => k_is)
    refine' Fk.with_bl KX G "len" ?az21 fun n_len => ?_
    (case az21 => k_is)
    refine' Fk.with_bl KX G "min" ?az22 fun n_min => ?_
    (case az22 => k_is)
    refine' Fk.with_bl KX G "range" ?az23 fun n_range => ?_
    (case az23 => k_is)
    refine' Fk.with_bl KX G "set" ?az24 fun n_set => ?_
    (case az24 => k_is)
    refine' Fk.with_bl KX G "sum" ?az25 fun n_sum => ?_
    (case az25 => k_is)
    refine' Fk.with_ex KX G "FrankError" ?az26 ?ez26 ?kz26 ?bz26 ?tz26 fun x_FrankError => ?_
    (case az26 => k_is); (case ez26 => k_exc); (case kz26 => k_is); (case bz26 => k_is); (case tz26 => k_is)
    refine' Fk.with_ex KX G "NoBank" ?az27 ?ez27 ?kz27 ?bz27 ?tz27 fun x_NoBank => ?_
    (case az27 => k_is); (case ez27 => k_exc); (case kz27 => k_is); (case bz27 => k_is); (case tz27 => k_is)
    refine' Fk.with_ex KX G "BadNumber" ?az28 ?ez28 ?kz28 ?bz28 ?tz28 fun x_BadNumber => ?_
    (case az28 => k_is); (case ez28 => k_exc); (case kz28 => k_is); (case bz28 => k_is); (case tz28 => k_is)
    refine' Fk.with_ex KX G "BadAmount" ?az29 ?ez29 ?kz29 ?bz29 ?tz29 fun x_BadAmount => ?_
    (case az29 => k_is); (case ez29 => k_exc); (case kz29 => k_is); (case bz29 => k_is); (case tz29 => k_is)
    refine' Fk.with_ex KX G "BadCode" ?az30 ?ez30 ?kz30 ?bz30 ?tz30 fun x_BadCode => ?_
    (case az30 => k_is); (case ez30 => k_exc); (case kz30 => k_is); (case bz30 => k_is); (case tz30 => k_is)
    refine' Fk.with_ex KX G "Short" ?az31 ?ez31 ?kz31 ?bz31 ?tz31 fun x_Short => ?_
    (case az31 => k_is); (case ez31 => k_exc); (case kz31 => k_is); (case bz31 => k_is); (case tz31 => k_is)
    refine' Fk.with_ex KX G "Down" ?az32 ?ez32 ?kz32 ?bz32 ?tz32 fun x_Down => ?_
    (case az32 => k_is); (case ez32 => k_exc); (case kz32 => k_is); (case bz32 => k_is); (case tz32 => k_is)
    refine' Fk.with_ex KX G "Up" ?az33 ?ez33 ?kz33 ?bz33 ?tz33 fun x_Up => ?_
    (case az33 => k_is); (case ez33 => k_exc); (case kz33 => k_is); (case bz33 => k_is); (case tz33 => k_is)
    refine' Fk.with_ex KX G "NoMeter" ?az34 ?ez34 ?kz34 ?bz34 ?tz34 fun x_NoMeter => ?_
    (case az34 => k_is); (case ez34 => k_exc); (case kz34 => k_is); (case bz34 => k_is); (case tz34 => k_is)
    refine' Fk.with_ei x_NoBank x_FrankError ?h1z35 ?h2z35 ?h3z35 ?h4z35 ?h5z35 ?h6z35 ?h7z35 ?h8z35 ?h9z35 ?h10z35 fun i_NoBank => ?_
    (case h1z35 => k_is); (case h2z35 => k_is); (case h3z35 => k_is); (case h4z35 => k_is); (case h5z35 => k_is); (case h6z35 => k_is); (case h7z35 => k_is); (case h8z35 => k_is); (case h9z35 => k_is); (case h10z35 => kernel_rfl)
    refine' Fk.with_ei x_BadNumber x_FrankError ?h1z36 ?h2z36 ?h3z36 ?h4z36 ?h5z36 ?h6z36 ?h7z36 ?h8z36 ?h9z36 ?h10z36 fun i_BadNumber => ?_
    (case h1z36 => k_is); (case h2z36 => k_is); (case h3z36 => k_is); (case h4z36 => k_is); (case h5z36 => k_is); (case h6z36 => k_is); (case h7z36 => k_is); (case h8z36 => k_is); (case h9z36 => k_is); (case h10z36 => kernel_rfl)
    refine' Fk.with_ei x_BadAmount x_FrankError ?h1z37 ?h2z37 ?h3z37 ?h4z37 ?h5z37 ?h6z37 ?h7z37 ?h8z37 ?h9z37 ?h10z37 fun i_BadAmount => ?_
    (case h1z37 => k_is); (case h2z37 => k_is); (case h3z37 => k_is); (case h4z37 => k_is); (case h5z37 => k_is); (case h6z37 => k_is); (case h7z37 => k_is); (case h8z37 => k_is); (case h9z37 => k_is); (case h10z37 => kernel_rfl)
    refine' Fk.with_ei x_BadCode x_FrankError ?h1z38 ?h2z38 ?h3z38 ?h4z38 ?h5z38 ?h6z38 ?h7z38 ?h8z38 ?h9z38 ?h10z38 fun i_BadCode => ?_
    (case h1z38 => k_is); (case h2z38 => k_is); (case h3z38 => k_is); (case h4z38 => k_is); (case h5z38 => k_is); (case h6z38 => k_is); (case h7z38 => k_is); (case h8z38 => k_is); (case h9z38 => k_is); (case h10z38 => kernel_rfl)
    refine' Fk.with_ei x_Short x_FrankError ?h1z39 ?h2z39 ?h3z39 ?h4z39 ?h5z39 ?h6z39 ?h7z39 ?h8z39 ?h9z39 ?h10z39 fun i_Short => ?_
    (case h1z39 => k_is); (case h2z39 => k_is); (case h3z39 => k_is); (case h4z39 => k_is); (case h5z39 => k_is); (case h6z39 => k_is); (case h7z39 => k_is); (case h8z39 => k_is); (case h9z39 => k_is); (case h10z39 => kernel_rfl)
    refine' Fk.with_ei x_Down x_FrankError ?h1z40 ?h2z40 ?h3z40 ?h4z40 ?h5z40 ?h6z40 ?h7z40 ?h8z40 ?h9z40 ?h10z40 fun i_Down => ?_
    (case h1z40 => k_is); (case h2z40 => k_is); (case h3z40 => k_is); (case h4z40 => k_is); (case h5z40 => k_is); (case h6z40 => k_is); (case h7z40 => k_is); (case h8z40 => k_is); (case h9z40 => k_is); (case h10z40 => kernel_rfl)
    refine' Fk.with_ei x_Up x_FrankError ?h1z41 ?h2z41 ?h3z41 ?h4z41 ?h5z41 ?h6z41 ?h7z41 ?h8z41 ?h9z41 ?h10z41 fun i_Up => ?_
    (case h1z41 => k_is); (case h2z41 => k_is); (case h3z41 => k_is); (case h4z41 => k_is); (case h5z41 => k_is); (case h6z41 => k_is); (case h7z41 => k_is); (case h8z41 => k_is); (case h9z41 => k_is); (case h10z41 => kernel_rfl)
    refine' Fk.with_ei x_NoMeter x_FrankError ?h1z42 ?h2z42 ?h3z42 ?h4z42 ?h5z42 ?h6z42 ?h7z42 ?h8z42 ?h9z42 ?h10z42 fun i_NoMeter => ?_
    (case h1z42 => k_is); (case h2z42 => k_is); (case h3z42 => k_is); (case h4z42 => k_is); (case h5z42 => k_is); (case h6z42 => k_is); (case h7z42 => k_is); (case h8z42 => k_is); (case h9z42 => k_is); (case h10z42 => kernel_rfl)
    refine' Fk.with_cl KX G "Meter" ?az43 ?h1z43 ?h2z43 ?h3z43 ?h4z43 ?h5z43 ?h6z43 fun cls_Meter g_Meter mk_Meter_ kc_Meter => ?_
    (case az43 => k_is); (case h1z43 => k_is); (case h2z43 => k_is); (case h3z43 => k_is); (case h4z43 => k_is); (case h5z43 => k_is); (case h6z43 => k_is)
    refine' Fk.with_na cls_Meter "own" ?az44 fun na_Meter_own => ?_
    (case az44 => k_is)
    refine' Fk.with_na cls_Meter "key" ?az45 fun na_Meter_key => ?_
    (case az45 => k_is)
    refine' Fk.with_na cls_Meter "memory" ?az46 fun na_Meter_memory => ?_
    (case az46 => k_is)
    refine' Fk.with_na cls_Meter "prints" ?az47 fun na_Meter_prints => ?_
    (case az47 => k_is)
    refine' Fk.with_na cls_Meter "awake" ?az48 fun na_Meter_awake => ?_
    (case az48 => k_is)
    refine' Fk.with_cl KX G "House" ?az49 ?h1z49 ?h2z49 ?h3z49 ?h4z49 ?h5z49 ?h6z49 fun cls_House g_House mk_House_ kc_House => ?_
    (case az49 => k_is); (case h1z49 => k_is); (case h2z49 => k_is); (case h3z49 => k_is); (case h4z49 => k_is); (case h5z49 => k_is); (case h6z49 => k_is)
    refine' Fk.with_na cls_House "key" ?az50 fun na_House_key => ?_
    (case az50 => k_is)
    refine' Fk.with_na cls_House "money" ?az51 fun na_House_money => ?_
    (case az51 => k_is)
    refine' Fk.with_na cls_House "spent" ?az52 fun na_House_spent => ?_
    (case az52 => k_is)
    refine' Fk.with_na cls_House "issues" ?az53 fun na_House_issues => ?_
    (case az53 => k_is)
    refine' Fk.with_na cls_House "taken" ?az54 fun na_House_taken => ?_
    (case az54 => k_is)
    refine' Fk.with_fn KX G "sign_of" Fk.s_sign_of ["key", "meter", "count", "amount", "kind"] ?az55 ?lz55 ?cz55 ?kz55 ?bz55 fun f_sign_of => ?_
    (case az55 => k_is); (case lz55 => k_is); (case cz55 => k_is); (case kz55 => k_is); (case bz55 => exact fun _ _ _ _ _ _ us hl => match us, hl with | [_, _, _, _, _], _ => rfl)
    refine' Fk.with_fn KX G "code_of" Fk.s_code_of ["key", "meter", "count", "amount", "kind"] ?az56 ?lz56 ?cz56 ?kz56 ?bz56 fun f_code_of => ?_
    (case az56 => k_is); (case lz56 => k_is); (case cz56 => k_is); (case kz56 => k_is); (case bz56 => exact fun _ _ _ _ _ _ us hl => match us, hl with | [_, _, _, _, _], _ => rfl)
    refine' Fk.with_fn KX G "is_amount" Fk.s_is_amount ["amount"] ?az57 ?lz57 ?cz57 ?kz57 ?bz57 fun f_is_amount => ?_
    (case az57 => k_is); (case lz57 => k_is); (case cz57 => k_is); (case kz57 => k_is); (case bz57 => exact fun _ _ _ _ _ _ us hl => match us, hl with | [_], _ => rfl)
    refine' Fk.with_fn KX G "need_amount" Fk.s_need_amount ["amount"] ?az58 ?lz58 ?cz58 ?kz58 ?bz58 fun f_need_amount => ?_
    (case az58 => k_is); (case lz58 => k_is); (case cz58 => k_is); (case kz58 => k_is); (case bz58 => exact fun _ _ _ _ _ _ us hl => match us, hl with | [_], _ => rfl)
    refine' Fk.with_fn KX G "is_good" Fk.s_is_good ["key", "code", "meter", "count", "kind"] ?az59 ?lz59 ?cz59 ?kz59 ?bz59 fun f_is_good => ?_
    (case az59 => k_is); (case lz59 => k_is); (case cz59 => k_is); (case kz59 => k_is); (case bz59 => exact fun _ _ _ _ _ _ us hl => match us, hl with | [_, _, _, _, _], _ => rfl)
    refine' Fk.with_fn KX G "at_first" Fk.s_at_first [] ?az60 ?lz60 ?cz60 ?kz60 ?bz60 fun f_at_first => ?_
    (case az60 => k_is); (case lz60 => k_is); (case cz60 => k_is); (case kz60 => k_is); (case bz60 => exact fun _ _ _ _ _ _ us hl => match us, hl with | [], _ => rfl)
    refine' Fk.with_fn KX G "standing" Fk.s_standing ["cells"] ?az61 ?lz61 ?cz61 ?kz61 ?bz61 fun f_standing => ?_
    (case az61 => k_is); (case lz61 => k_is); (case cz61 => k_is); (case kz61 => k_is); (case bz61 => exact fun _ _ _ _ _ _ us hl => match us, hl with | [_], _ => rfl)
    refine' Fk.with_fn KX G "bank_of" Fk.s_bank_of ["cells"] ?az62 ?lz62 ?cz62 ?kz62 ?bz62 fun f_bank_of => ?_
    (case az62 => k_is); (case lz62 => k_is); (case cz62 => k_is); (case kz62 => k_is); (case bz62 => exact fun _ _ _ _ _ _ us hl => match us, hl with | [_], _ => rfl)
    refine' Fk.with_fn KX G "steps_to" Fk.s_steps_to ["cells", "changes"] ?az63 ?lz63 ?cz63 ?kz63 ?bz63 fun f_steps_to => ?_
    (case az63 => k_is); (case lz63 => k_is); (case cz63 => k_is); (case kz63 => k_is); (case bz63 => exact fun _ _ _ _ _ _ us hl => match us, hl with | [_, _], _ => rfl)
    refine' Fk.with_fn KX G "need_key" Fk.s_need_key ["key"] ?az64 ?lz64 ?cz64 ?kz64 ?bz64 fun f_need_key => ?_
    (case az64 => k_is); (case lz64 => k_is); (case cz64 => k_is); (case kz64 => k_is); (case bz64 => exact fun _ _ _ _ _ _ us hl => match us, hl with | [_], _ => rfl)
    refine' Fk.with_fn KX G "need_number" Fk.s_need_number ["number"] ?az65 ?lz65 ?cz65 ?kz65 ?bz65 fun f_need_number => ?_
    (case az65 => k_is); (case lz65 => k_is); (case cz65 => k_is); (case kz65 => k_is); (case bz65 => exact fun _ _ _ _ _ _ us hl => match us, hl with | [_], _ => rfl)
    refine' Fk.with_me cls_Meter "__init__" "Meter.__init__" Fk.s_Meter___init__ ["self", "number", "key"] ?az66 ?iz66 ?lz66 ?cz66 ?kz66 ?bz66 fun m_Meter___init__ => ?_
    (case az66 => k_is); (case iz66 => k_is); (case lz66 => k_is); (case cz66 => k_is); (case kz66 => k_is); (case bz66 => exact fun _ _ _ _ _ _ us hl => match us, hl with | [_, _, _], _ => rfl)
    refine' Fk.with_me cls_Meter "number" "Meter.number" Fk.s_Meter_number ["self"] ?az67 ?iz67 ?lz67 ?cz67 ?kz67 ?bz67 fun m_Meter_number => ?_
    (case az67 => k_is); (case iz67 => k_is); (case lz67 => k_is); (case cz67 => k_is); (case kz67 => k_is); (case bz67 => exact fun _ _ _ _ _ _ us hl => match us, hl with | [_], _ => rfl)
    refine' Fk.with_me cls_Meter "is_up" "Meter.is_up" Fk.s_Meter_is_up ["self"] ?az68 ?iz68 ?lz68 ?cz68 ?kz68 ?bz68 fun m_Meter_is_up => ?_
    (case az68 => k_is); (case iz68 => k_is); (case lz68 => k_is); (case cz68 => k_is); (case kz68 => k_is); (case bz68 => exact fun _ _ _ _ _ _ us hl => match us, hl with | [_], _ => rfl)
    refine' Fk.with_me cls_Meter "sums" "Meter.sums" Fk.s_Meter_sums ["self"] ?az69 ?iz69 ?lz69 ?cz69 ?kz69 ?bz69 fun m_Meter_sums => ?_
    (case az69 => k_is); (case iz69 => k_is); (case lz69 => k_is); (case cz69 => k_is); (case kz69 => k_is); (case bz69 => exact fun _ _ _ _ _ _ us hl => match us, hl with | [_], _ => rfl)
    refine' Fk.with_me cls_Meter "need_up" "Meter.need_up" Fk.s_Meter_need_up ["self"] ?az70 ?iz70 ?lz70 ?cz70 ?kz70 ?bz70 fun m_Meter_need_up => ?_
    (case az70 => k_is); (case iz70 => k_is); (case lz70 => k_is); (case cz70 => k_is); (case kz70 => k_is); (case bz70 => exact fun _ _ _ _ _ _ us hl => match us, hl with | [_], _ => rfl)
    refine' Fk.with_me cls_Meter "write" "Meter.write" Fk.s_Meter_write ["self", "changes", "cut"] ?az71 ?iz71 ?lz71 ?cz71 ?kz71 ?bz71 fun m_Meter_write => ?_
    (case az71 => k_is); (case iz71 => k_is); (case lz71 => k_is); (case cz71 => k_is); (case kz71 => k_is); (case bz71 => exact fun _ _ _ _ _ _ us hl => match us, hl with | [_, _, _], _ => rfl)
    refine' Fk.with_me cls_Meter "owed" "Meter.owed" Fk.s_Meter_owed ["self"] ?az72 ?iz72 ?lz72 ?cz72 ?kz72 ?bz72 fun m_Meter_owed => ?_
    (case az72 => k_is); (case iz72 => k_is); (case lz72 => k_is); (case cz72 => k_is); (case kz72 => k_is); (case bz72 => exact fun _ _ _ _ _ _ us hl => match us, hl with | [_], _ => rfl)
    refine' Fk.with_me cls_Meter "print_owed" "Meter.print_owed" Fk.s_Meter_print_owed ["self", "cut"] ?az73 ?iz73 ?lz73 ?cz73 ?kz73 ?bz73 fun m_Meter_print_owed => ?_
    (case az73 => k_is); (case iz73 => k_is); (case lz73 => k_is); (case cz73 => k_is); (case kz73 => k_is); (case bz73 => exact fun _ _ _ _ _ _ us hl => match us, hl with | [_, _], _ => rfl)
    refine' Fk.with_md cls_Meter "stamp" "Meter.stamp" Fk.s_Meter_stamp ["self", "amount", "cut"] 2 ?az74 ?iz74 ?lz74 ?cz74 ?kz74 ?zz74 ?hnz74 ?bz74 ?b1z74 fun m_Meter_stamp => ?_
    (case az74 => k_is); (case iz74 => k_is); (case lz74 => k_is); (case cz74 => k_is); (case kz74 => k_is); (case zz74 => k_is); (case hnz74 => rfl); (case bz74 => exact fun _ _ _ _ _ _ _ us its hl hi => match us, its, hl, hi with | [_, _, _], [_], _, _ => ⟨_, rfl, rfl⟩); (case b1z74 => exact fun _ _ _ _ _ _ _ us its hl hi => match us, its, hl, hi with | [_, _], [_], _, _ => ⟨_, rfl, rfl⟩)
    refine' Fk.with_md cls_Meter "top_up" "Meter.top_up" Fk.s_Meter_top_up ["self", "code", "cut"] 2 ?az75 ?iz75 ?lz75 ?cz75 ?kz75 ?zz75 ?hnz75 ?bz75 ?b1z75 fun m_Meter_top_up => ?_
    (case az75 => k_is); (case iz75 => k_is); (case lz75 => k_is); (case cz75 => k_is); (case kz75 => k_is); (case zz75 => k_is); (case hnz75 => rfl); (case bz75 => exact fun _ _ _ _ _ _ _ us its hl hi => match us, its, hl, hi with | [_, _, _], [_], _, _ => ⟨_, rfl, rfl⟩); (case b1z75 => exact fun _ _ _ _ _ _ _ us its hl hi => match us, its, hl, hi with | [_, _], [_], _, _ => ⟨_, rfl, rfl⟩)
    refine' Fk.with_md cls_Meter "give_back" "Meter.give_back" Fk.s_Meter_give_back ["self", "amount", "cut"] 2 ?az76 ?iz76 ?lz76 ?cz76 ?kz76 ?zz76 ?hnz76 ?bz76 ?b1z76 fun m_Meter_give_back => ?_
    (case az76 => k_is); (case iz76 => k_is); (case lz76 => k_is); (case cz76 => k_is); (case kz76 => k_is); (case zz76 => k_is); (case hnz76 => rfl); (case bz76 => exact fun _ _ _ _ _ _ _ us its hl hi => match us, its, hl, hi with | [_, _, _], [_], _, _ => ⟨_, rfl, rfl⟩); (case b1z76 => exact fun _ _ _ _ _ _ _ us its hl hi => match us, its, hl, hi with | [_, _], [_], _, _ => ⟨_, rfl, rfl⟩)
    refine' Fk.with_me cls_Meter "last_back" "Meter.last_back" Fk.s_Meter_last_back ["self"] ?az77 ?iz77 ?lz77 ?cz77 ?kz77 ?bz77 fun m_Meter_last_back => ?_
    (case az77 => k_is); (case iz77 => k_is); (case lz77 => k_is); (case cz77 => k_is); (case kz77 => k_is); (case bz77 => exact fun _ _ _ _ _ _ us hl => match us, hl with | [_], _ => rfl)
    refine' Fk.with_md cls_Meter "come_up" "Meter.come_up" Fk.s_Meter_come_up ["self", "cut"] 1 ?az78 ?iz78 ?lz78 ?cz78 ?kz78 ?zz78 ?hnz78 ?bz78 ?b1z78 fun m_Meter_come_up => ?_
    (case az78 => k_is); (case iz78 => k_is); (case lz78 => k_is); (case cz78 => k_is); (case kz78 => k_is); (case zz78 => k_is); (case hnz78 => rfl); (case bz78 => exact fun _ _ _ _ _ _ _ us its hl hi => match us, its, hl, hi with | [_, _], [_], _, _ => ⟨_, rfl, rfl⟩); (case b1z78 => exact fun _ _ _ _ _ _ _ us its hl hi => match us, its, hl, hi with | [_], [_], _, _ => ⟨_, rfl, rfl⟩)
    refine' Fk.with_me cls_House "__init__" "House.__init__" Fk.s_House___init__ ["self", "key", "meters"] ?az79 ?iz79 ?lz79 ?cz79 ?kz79 ?bz79 fun m_House___init__ => ?_
    (case az79 => k_is); (case iz79 => k_is); (case lz79 => k_is); (case cz79 => k_is); (case kz79 => k_is); (case bz79 => exact fun _ _ _ _ _ _ us hl => match us, hl with | [_, _, _], _ => rfl)
    refine' Fk.with_me cls_House "funds" "House.funds" Fk.s_House_funds ["self"] ?az80 ?iz80 ?lz80 ?cz80 ?kz80 ?bz80 fun m_House_funds => ?_
    (case az80 => k_is); (case iz80 => k_is); (case lz80 => k_is); (case cz80 => k_is); (case kz80 => k_is); (case bz80 => exact fun _ _ _ _ _ _ us hl => match us, hl with | [_], _ => rfl)
    refine' Fk.with_me cls_House "bought" "House.bought" Fk.s_House_bought ["self"] ?az81 ?iz81 ?lz81 ?cz81 ?kz81 ?bz81 fun m_House_bought => ?_
    (case az81 => k_is); (case iz81 => k_is); (case lz81 => k_is); (case cz81 => k_is); (case kz81 => k_is); (case bz81 => exact fun _ _ _ _ _ _ us hl => match us, hl with | [_], _ => rfl)
    refine' Fk.with_me cls_House "buy" "House.buy" Fk.s_House_buy ["self", "amount"] ?az82 ?iz82 ?lz82 ?cz82 ?kz82 ?bz82 fun m_House_buy => ?_
    (case az82 => k_is); (case iz82 => k_is); (case lz82 => k_is); (case cz82 => k_is); (case kz82 => k_is); (case bz82 => exact fun _ _ _ _ _ _ us hl => match us, hl with | [_, _], _ => rfl)
    refine' Fk.with_me cls_House "need_meter" "House.need_meter" Fk.s_House_need_meter ["self", "meter"] ?az83 ?iz83 ?lz83 ?cz83 ?kz83 ?bz83 fun m_House_need_meter => ?_
    (case az83 => k_is); (case iz83 => k_is); (case lz83 => k_is); (case cz83 => k_is); (case kz83 => k_is); (case bz83 => exact fun _ _ _ _ _ _ us hl => match us, hl with | [_, _], _ => rfl)
    refine' Fk.with_me cls_House "issue" "House.issue" Fk.s_House_issue ["self", "meter", "amount"] ?az84 ?iz84 ?lz84 ?cz84 ?kz84 ?bz84 fun m_House_issue => ?_
    (case az84 => k_is); (case iz84 => k_is); (case lz84 => k_is); (case cz84 => k_is); (case kz84 => k_is); (case bz84 => exact fun _ _ _ _ _ _ us hl => match us, hl with | [_, _, _], _ => rfl)
    refine' Fk.with_me cls_House "last_code" "House.last_code" Fk.s_House_last_code ["self", "meter"] ?az85 ?iz85 ?lz85 ?cz85 ?kz85 ?bz85 fun m_House_last_code => ?_
    (case az85 => k_is); (case iz85 => k_is); (case lz85 => k_is); (case cz85 => k_is); (case kz85 => k_is); (case bz85 => exact fun _ _ _ _ _ _ us hl => match us, hl with | [_, _], _ => rfl)
    refine' Fk.with_me cls_House "take_back" "House.take_back" Fk.s_House_take_back ["self", "code"] ?az86 ?iz86 ?lz86 ?cz86 ?kz86 ?bz86 fun m_House_take_back => ?_
    (case az86 => k_is); (case iz86 => k_is); (case lz86 => k_is); (case cz86 => k_is); (case kz86 => k_is); (case bz86 => exact fun _ _ _ _ _ _ us hl => match us, hl with | [_, _], _ => rfl)
    refine' Fk.with_me cls_House "out" "House.out" Fk.s_House_out ["self"] ?az87 ?iz87 ?lz87 ?cz87 ?kz87 ?bz87 fun m_House_out => ?_
    (case az87 => k_is); (case iz87 => k_is); (case lz87 => k_is); (case cz87 => k_is); (case kz87 => k_is); (case bz87 => exact fun _ _ _ _ _ _ us hl => match us, hl with | [_], _ => rfl)
    refine' Fk.with_fn KX G "accounts" Fk.s_accounts ["house", "meters"] ?az88 ?lz88 ?cz88 ?kz88 ?bz88 fun f_accounts => ?_
    (case az88 => k_is); (case lz88 => k_is); (case cz88 => k_is); (case kz88 => k_is); (case bz88 => exact fun _ _ _ _ _ _ us hl => match us, hl with | [_, _], _ => rfl)
    refine' Fk.with_fn KX G "_law_start" Fk.s__law_start ["_law_script"] ?az89 ?lz89 ?cz89 ?kz89 ?bz89 fun f__law_start => ?_
    (case az89 => k_is); (case lz89 => k_is); (case cz89 => k_is); (case kz89 => k_is); (case bz89 => exact fun _ _ _ _ _ _ us hl => match us, hl with | [_], _ => rfl)
    refine' Fk.with_fn KX G "_law_drawn" Fk.s__law_drawn ["_law_state", "_law_many"] ?az90 ?lz90 ?cz90 ?kz90 ?bz90 fun f__law_drawn => ?_
    (case az90 => k_is); (case lz90 => k_is); (case cz90 => k_is); (case kz90 => k_is); (case bz90 => exact fun _ _ _ _ _ _ us hl => match us, hl with | [_, _], _ => rfl)
    refine' Fk.with_fn KX G "_law_kind" Fk.s__law_kind ["_law_work"] ?az91 ?lz91 ?cz91 ?kz91 ?bz91 fun f__law_kind => ?_
    (case az91 => k_is); (case lz91 => k_is); (case cz91 => k_is); (case kz91 => k_is); (case bz91 => exact fun _ _ _ _ _ _ us hl => match us, hl with | [_], _ => rfl)
    refine' Fk.with_fn KX G "_law_amount" Fk.s__law_amount ["_law_state"] ?az92 ?lz92 ?cz92 ?kz92 ?bz92 fun f__law_amount => ?_
    (case az92 => k_is); (case lz92 => k_is); (case cz92 => k_is); (case kz92 => k_is); (case bz92 => exact fun _ _ _ _ _ _ us hl => match us, hl with | [_], _ => rfl)
    refine' Fk.with_fn KX G "_law_numbers" Fk.s__law_numbers ["_law_state", "_law_many"] ?az93 ?lz93 ?cz93 ?kz93 ?bz93 fun f__law_numbers => ?_
    (case az93 => k_is); (case lz93 => k_is); (case cz93 => k_is); (case kz93 => k_is); (case bz93 => exact fun _ _ _ _ _ _ us hl => match us, hl with | [_, _], _ => rfl)
    refine' Fk.with_fn KX G "_law_filled" Fk.s__law_filled ["_law_state", "_law_house", "_law_meter"] ?az94 ?lz94 ?cz94 ?kz94 ?bz94 fun f__law_filled => ?_
    (case az94 => k_is); (case lz94 => k_is); (case cz94 => k_is); (case kz94 => k_is); (case bz94 => exact fun _ _ _ _ _ _ us hl => match us, hl with | [_, _, _], _ => rfl)
    refine' Fk.with_fcE KX G "law" Fk.s_law ["_law_script"] ?az95 ?lz95 ?ciz95 ?kz95 ?bz95 ?hdz95 ?tz95 ?nz95 fun f_law eP hT nP hC hB => ?_
    (case az95 => k_is); (case lz95 => k_is); (case ciz95 => k_is); (case kz95 => k_is); (case bz95 => exact fun _ _ _ _ _ _ us hl => match us, hl with | [_], _ => rfl); (case tz95 => exact hTs _ (List.Mem.head _)); (case nz95 => kernel_rfl); (case hdz95 => kernel_rfl)
    exact Fk.law_at { g_WHEEL := g_WHEEL, g_TOP := g_TOP, g_BACK := g_BACK, g_MOST_AMOUNT := g_MOST_AMOUNT, g_WIDE := g_WIDE, g_TURN := g_TURN, g_RISING := g_RISING, g_FALLING := g_FALLING, g_CREDIT := g_CREDIT, g_TOPS := g_TOPS, g_BACKS := g_BACKS, g_GIVEN := g_GIVEN, g_STAMP := g_STAMP, g_AMOUNT := g_AMOUNT, g_MOST_NUMBER := g_MOST_NUMBER, g_MOST_KEY := g_MOST_KEY, g_MOST_METERS := g_MOST_METERS, n_ValueError := n_ValueError, n_dict := n_dict, n_isinstance := n_isinstance, n_len := n_len, n_min := n_min, n_range := n_range, n_set := n_set, n_sum := n_sum, E_FrankError := _, x_FrankError := x_FrankError, E_NoBank := _, x_NoBank := x_NoBank, E_BadNumber := _, x_BadNumber := x_BadNumber, E_BadAmount := _, x_BadAmount := x_BadAmount, E_BadCode := _, x_BadCode := x_BadCode, E_Short := _, x_Short := x_Short, E_Down := _, x_Down := x_Down, E_Up := _, x_Up := x_Up, E_NoMeter := _, x_NoMeter := x_NoMeter, hd_FrankError := by k_is, i_NoBank := i_NoBank, i_BadNumber := i_BadNumber, i_BadAmount := i_BadAmount, i_BadCode := i_BadCode, i_Short := i_Short, i_Down := i_Down, i_Up := i_Up, i_NoMeter := i_NoMeter, kt_NoBank_NoBank := by kernel_rfl, kt_NoBank_BadNumber := by kernel_rfl, kt_NoBank_BadAmount := by kernel_rfl, kt_NoBank_BadCode := by kernel_rfl, kt_NoBank_Short := by kernel_rfl, kt_NoBank_Down := by kernel_rfl, kt_NoBank_Up := by kernel_rfl, kt_NoBank_NoMeter := by kernel_rfl, kt_BadNumber_NoBank := by kernel_rfl, kt_BadNumber_BadNumber := by kernel_rfl, kt_BadNumber_BadAmount := by kernel_rfl, kt_BadNumber_BadCode := by kernel_rfl, kt_BadNumber_Short := by kernel_rfl, kt_BadNumber_Down := by kernel_rfl, kt_BadNumber_Up := by kernel_rfl, kt_BadNumber_NoMeter := by kernel_rfl, kt_BadAmount_NoBank := by kernel_rfl, kt_BadAmount_BadNumber := by kernel_rfl, kt_BadAmount_BadAmount := by kernel_rfl, kt_BadAmount_BadCode := by kernel_rfl, kt_BadAmount_Short := by kernel_rfl, kt_BadAmount_Down := by kernel_rfl, kt_BadAmount_Up := by kernel_rfl, kt_BadAmount_NoMeter := by kernel_rfl, kt_BadCode_NoBank := by kernel_rfl, kt_BadCode_BadNumber := by kernel_rfl, kt_BadCode_BadAmount := by kernel_rfl, kt_BadCode_BadCode := by kernel_rfl, kt_BadCode_Short := by kernel_rfl, kt_BadCode_Down := by kernel_rfl, kt_BadCode_Up := by kernel_rfl, kt_BadCode_NoMeter := by kernel_rfl, kt_Short_NoBank := by kernel_rfl, kt_Short_BadNumber := by kernel_rfl, kt_Short_BadAmount := by kernel_rfl, kt_Short_BadCode := by kernel_rfl, kt_Short_Short := by kernel_rfl, kt_Short_Down := by kernel_rfl, kt_Short_Up := by kernel_rfl, kt_Short_NoMeter := by kernel_rfl, kt_Down_NoBank := by kernel_rfl, kt_Down_BadNumber := by kernel_rfl, kt_Down_BadAmount := by kernel_rfl, kt_Down_BadCode := by kernel_rfl, kt_Down_Short := by kernel_rfl, kt_Down_Down := by kernel_rfl, kt_Down_Up := by kernel_rfl, kt_Down_NoMeter := by kernel_rfl, kt_Up_NoBank := by kernel_rfl, kt_Up_BadNumber := by kernel_rfl, kt_Up_BadAmount := by kernel_rfl, kt_Up_BadCode := by kernel_rfl, kt_Up_Short := by kernel_rfl, kt_Up_Down := by kernel_rfl, kt_Up_Up := by kernel_rfl, kt_Up_NoMeter := by kernel_rfl, kt_NoMeter_NoBank := by kernel_rfl, kt_NoMeter_BadNumber := by kernel_rfl, kt_NoMeter_BadAmount := by kernel_rfl, kt_NoMeter_BadCode := by kernel_rfl, kt_NoMeter_Short := by kernel_rfl, kt_NoMeter_Down := by kernel_rfl, kt_NoMeter_Up := by kernel_rfl, kt_NoMeter_NoMeter := by kernel_rfl, C_Meter := _, cls_Meter := cls_Meter, g_Meter := g_Meter, mk_Meter_ := mk_Meter_, kc_Meter := kc_Meter, na_Meter_own := na_Meter_own, na_Meter_key := na_Meter_key, na_Meter_memory := na_Meter_memory, na_Meter_prints := na_Meter_prints, na_Meter_awake := na_Meter_awake, C_House := _, cls_House := cls_House, g_House := g_House, mk_House_ := mk_House_, kc_House := kc_House, na_House_key := na_House_key, na_House_money := na_House_money, na_House_spent := na_House_spent, na_House_issues := na_House_issues, na_House_taken := na_House_taken, f_sign_of := f_sign_of, f_code_of := f_code_of, f_is_amount := f_is_amount, f_need_amount := f_need_amount, f_is_good := f_is_good, f_at_first := f_at_first, f_standing := f_standing, f_bank_of := f_bank_of, f_steps_to := f_steps_to, f_need_key := f_need_key, f_need_number := f_need_number, m_Meter___init__ := m_Meter___init__, m_Meter_number := m_Meter_number, m_Meter_is_up := m_Meter_is_up, m_Meter_sums := m_Meter_sums, m_Meter_need_up := m_Meter_need_up, m_Meter_write := m_Meter_write, m_Meter_owed := m_Meter_owed, m_Meter_print_owed := m_Meter_print_owed, m_Meter_stamp := m_Meter_stamp, m_Meter_top_up := m_Meter_top_up, m_Meter_give_back := m_Meter_give_back, m_Meter_last_back := m_Meter_last_back, m_Meter_come_up := m_Meter_come_up, m_House___init__ := m_House___init__, m_House_funds := m_House_funds, m_House_bought := m_House_bought, m_House_buy := m_House_buy, m_House_need_meter := m_House_need_meter, m_House_issue := m_House_issue, m_House_last_code := m_House_last_code, m_House_take_back := m_House_take_back, m_House_out := m_House_out, f_accounts := f_accounts, f__law_start := f__law_start, f__law_drawn := f__law_drawn, f__law_kind := f__law_kind, f__law_amount := f__law_amount, f__law_numbers := f__law_numbers, f__law_filled := f__law_filled, f_law := f_law } hmg hT nP hC hB
theorem PySem.Challenge.cw_frankmeter_k11_whole_moved_from_one_to_a_holds : PySem.Challenge.rw_frankmeter_k11_whole_moved_from_one_to_a.Holds := by
  exact hd_test

