import PyProof.Rows.All
import Wide.All
import OpenK.AllK
import Wide.FinOn
import PyProof.EqAt
import PyProof.EqKinds
import PyProof.TupleCall
import HandS.ForMost
import HandS.ForExc
import HandS.Wide
import HandS.IsInst
import HandS.Defaults
import HandS.SetFor
import HandS.Deep
import HandS.ExcIs
import HandS.Lambda
import HandS.EndTab
import HandS.Conv
import HandS.More
import PySem.Challenge.RW_frankmeter_k06_whole_wholly_or_not_at_al
set_option Elab.async false
set_option linter.all false
set_option maxRecDepth 100000
set_option maxRecDepth 100000
/-! the walker's own layer: heaps, readings as steps -/
namespace Fk
open PySem PySem.Spec PyProof.Rows L2

/-! ### heaps -/
/-- all that was tracked is as it was, but for what stands at S -/
def Mx (S : List Addr) (H H' : Hp) : Prop := ∀ a o, H a = some o → a ∉ S → H' a = some o
theorem Mx.refl {S : List Addr} {H : Hp} : Mx S H H := fun _ _ h _ => h
theorem Mx.trans {S : List Addr} {H H1 H2 : Hp} (a : Mx S H H1) (b : Mx S H1 H2) : Mx S H H2 := fun c o h n => b c o (a c o h n) n
theorem Mx.mono {S T : List Addr} {H H1 : Hp} (a : Mx S H H1) (h : ∀ x ∈ S, x ∈ T) : Mx T H H1 := fun c o e n => a c o e fun z => n (h c z)
theorem Mx.of0 {S : List Addr} {H H1 : Hp} (a : Mx [] H H1) : Mx S H H1 := fun c o e n => a c o e (by simp)
theorem Mx.new {S : List Addr} {H : Hp} {p : Addr} {o : HO} (h : H p = none) : Mx S H (upd H p o) := fun a u e _ => by
  rw [upd_ne (ne_of_none e h)]; exact e
theorem Mx.put {S : List Addr} {H : Hp} {p : Addr} {o : HO} (h : p ∈ S) : Mx S H (upd H p o) := fun a u e n => by
  rw [upd_ne (fun z => n (by rw [z]; exact h))]; exact e
theorem Mx.get {S : List Addr} {H H' : Hp} {a : Addr} {o : HO} (m : Mx S H H') (n : a ∉ S) (h : H a = some o) : H' a = some o := m a o h n
theorem Mx.get0 {H H' : Hp} {a : Addr} {o : HO} (m : Mx [] H H') (h : H a = some o) : H' a = some o := m a o h (by simp)
theorem Mx.free0 {H H' : Hp} {p : Addr} (m : Mx [] H H') (h : H' p = none) : H p = none := by
  cases e : H p with
  | none => rfl
  | some o => have := m p o e (by simp); rw [h] at this; cases this
theorem Mx.free {S : List Addr} {H H' : Hp} {p : Addr} (m : Mx S H H') (h : H' p = none) (n : p ∉ S) : H p = none := by
  cases e : H p with
  | none => rfl
  | some o => have := m p o e n; rw [h] at this; cases this
theorem Mx.rd0 {H H' : Hp} {a : Addr} {u : HO} (m : Mx [] H H') (h : Rd H a u) : Rd H' a u := by
  rcases h with h | ⟨o, h⟩
  · exact .inl (m.get0 h)
  · exact .inr ⟨o, m.get0 h⟩
theorem Mx.rd {S : List Addr} {H H' : Hp} {a : Addr} {u : HO} (m : Mx S H H') (n : a ∉ S) (h : Rd H a u) : Rd H' a u := by
  rcases h with h | ⟨o, h⟩
  · exact .inl (m.get n h)
  · exact .inr ⟨o, m.get n h⟩
theorem Mx.sqL {K : PySem.W.Frag} {S : List Addr} {H H' : Hp} {a : Addr} {xs : List V} (m : Mx S H H') (n : a ∉ S) (h : SqL K H a xs) : SqL K H' a xs := by
  rcases h with h | h
  · exact .inl (m.rd n h)
  · exact .inr h
theorem Mx.sqT {K : PySem.W.Frag} {S : List Addr} {H H' : Hp} {a : Addr} {xs : List V} (m : Mx S H H') (n : a ∉ S) (h : SqT K H a xs) : SqT K H' a xs := by
  rcases h with h | h
  · exact .inl (m.rd n h)
  · exact .inr h
theorem Mx.sqL0 {K : PySem.W.Frag} {H H' : Hp} {a : Addr} {xs : List V} (m : Mx [] H H') (h : SqL K H a xs) : SqL K H' a xs := m.sqL (by simp) h
theorem Mx.sqT0 {K : PySem.W.Frag} {H H' : Hp} {a : Addr} {xs : List V} (m : Mx [] H H') (h : SqT K H a xs) : SqT K H' a xs := m.sqT (by simp) h
/-- a tuple is never among what is written -/
theorem not_tup {H : Hp} {S : List Addr} (hS : ∀ x ∈ S, ∀ ys, H x ≠ some (.tup ys)) {a : Addr} {xs : List V} (h : H a = some (.tup xs)) : a ∉ S := fun z => hS a z xs h

/-! ### small steps of a reading -/
section
variable {K : PySem.W.Frag} {σ σ' : L2.St} {H : Hp} {Q : VK} {QB : Bool → Hp → Prop} {QA : List V → Hp → Prop} {D : Ends} {v x y : V}
theorem g_var {i : Nat} (h : σ[i]? = some (some v)) (k : Q v H) : tVar i σ H Q := ⟨v, h, k⟩
theorem g_c (k : Q v H) : tC v σ H Q := k
theorem g_op {r : R2} {ta tb : TE} (k : ta σ H fun x H1 => tb σ H1 fun y H2 => r x y H2 Q) : tOp r ta tb σ H Q := k
theorem g_un {r : V → Hp → VK → Prop} {ta : TE} (k : ta σ H fun x H1 => r x H1 Q) : tUn r ta σ H Q := k
theorem g_I0 {g : Int → Int → V} {i j : Int} (k : Q (g i j) H) : rI0 g (.int i) (.int j) H Q := ⟨i, j, rfl, rfl, k⟩
theorem g_I {C : Int → Int → Prop} {g : Int → Int → V} {i j : Int} (c : C i j) (k : Q (g i j) H) : rI C g (.int i) (.int j) H Q := ⟨i, j, rfl, rfl, c, k⟩
theorem g_U {g : Int → V} {i : Int} (k : Q (g i) H) : rU g (.int i) H Q := ⟨i, rfl, k⟩
theorem g_eq (h : scal x y = true) (k : Q (.bl (decide (x = y))) H) : rEq x y H Q := ⟨h, k⟩
theorem g_ne (h : scal x y = true) (k : Q (.bl (!decide (x = y))) H) : rNe x y H Q := ⟨h, k⟩
/-- a truth value goes on as a Bool -/
def kBl (Q : Bool → Hp → Prop) : VK := fun x H' => ∃ k, x = .bl k ∧ Q k H'
theorem g_bl {b : Bool} (k : QB b H) : kBl QB (.bl b) H := ⟨b, rfl, k⟩
theorem g_test {t : TE} (k : t σ H (kBl QB)) : tTest t σ H QB := k
theorem g_tB {t : TE} (k : t σ H (kBl QB)) : tB t σ H QB := k
theorem g_not {t : TT} (k : t σ H fun c H1 => QB (!c) H1) : tNot t σ H QB := k
theorem g_and {t u : TT} (k : t σ H fun c H1 => if c = true then u σ H1 QB else QB false H1) : tAnd t u σ H QB := k
theorem g_or {t u : TT} (k : t σ H fun c H1 => if c = true then QB true H1 else u σ H1 QB) : tOr t u σ H QB := k
/-- a value that is a truth value, then one of two ways -/
def kIf (F : Bool → Hp → Prop) : VK := fun x H1 => ∃ c, x = .bl c ∧ F c H1
theorem g_kIf {F : Bool → Hp → Prop} {b : Bool} (k : F b H) : kIf F (.bl b) H := ⟨b, rfl, k⟩
theorem g_andV {ta tb : TE} (k : ta σ H (kIf fun c H1 => if c = true then tb σ H1 Q else Q (.bl false) H1)) : tAndV ta tb σ H Q := k
theorem g_orV {ta tb : TE} (k : ta σ H (kIf fun c H1 => if c = true then Q (.bl true) H1 else tb σ H1 Q)) : tOrV ta tb σ H Q := k
theorem g_notV {ta : TE} (k : ta σ H (kIf fun c H1 => Q (.bl (!c)) H1)) : tNotV ta σ H Q := k
theorem g_isN {ta : TE} (k : ta σ H fun x H1 => Q (.bl (decide (x = .non))) H1) : tIsN ta σ H Q := k
theorem g_notN {ta : TE} (k : ta σ H fun x H1 => Q (.bl (!decide (x = .non))) H1) : tNotN ta σ H Q := k
theorem g_ifE {t : TT} {ta tb : TE} (k : t σ H fun c H1 => if c = true then ta σ H1 Q else tb σ H1 Q) : tIf t ta tb σ H Q := k
theorem g_ite {b : Bool} {A B : Prop} (h1 : b = true → A) (h2 : b = false → B) : if b = true then A else B := by
  cases b with
  | true => rw [if_pos rfl]; exact h1 rfl
  | false => rw [if_neg Bool.false_ne_true]; exact h2 rfl
theorem g_yes {b : Bool} {A B : Prop} (e : b = true) (h : A) : if b = true then A else B := by rw [if_pos e]; exact h
theorem g_no {b : Bool} {A B : Prop} (e : b = false) (h : B) : if b = true then A else B := by rw [e, if_neg Bool.false_ne_true]; exact h
/-- a chain a < b < c -/
def kCh (r' : R2) (tc : TE) (σ : L2.St) (y : V) (Q : VK) : VK := fun z H3 => ∃ k, z = .bl k ∧ (if k = true then tc σ H3 fun w' H4 => r' y w' H4 Q else Q (.bl false) H3)
theorem g_kCh {r' : R2} {tc : TE} {b : Bool} (k : if b = true then tc σ H fun w' H4 => r' y w' H4 Q else Q (.bl false) H) : kCh r' tc σ y Q (.bl b) H := ⟨b, rfl, k⟩
theorem g_chain {r r' : R2} {ta tb tc : TE} (k : ta σ H fun x H1 => tb σ H1 fun y H2 => r x y H2 (kCh r' tc σ y Q)) : tChain r r' ta tb tc σ H Q := k
/-! arguments, displays -/
theorem g_nil (k : QA [] H) : tNil σ H QA := k
theorem g_cons {ta : TE} {tr : TA} (k : ta σ H fun x H1 => tr σ H1 fun xs H2 => QA (x :: xs) H2) : tCons ta tr σ H QA := k
theorem lineS {n : Nat} (h : n ≤ 100000) : n ≤ sizeLine := Nat.le_trans h (by rw [sizeLine_eq]; decide)
theorem lineL {n : Nat} (h : n < 100000) : n < sizeLine := Nat.lt_of_lt_of_le h (by rw [sizeLine_eq]; decide)
/-- a new object of content o -/
def kNew (o : List V → HO) (Q : VK) : List V → Hp → Prop := fun xs H1 => xs.length ≤ sizeLine ∧ ∀ p, H1 p = none → Q (.ref p) (upd H1 p (o xs))
theorem g_tup {t : TA} (k : t σ H (kNew .tup Q)) : tTup t σ H Q := k
theorem g_lst {t : TA} (k : t σ H (kNew .lst Q)) : tLst t σ H Q := k
theorem g_kNew {o : List V → HO} {xs : List V} (hl : xs.length ≤ 100000) (k : ∀ p H', H p = none → Mx [] H H' → H' p = some (o xs) → Q (.ref p) H') : kNew o Q xs H :=
  ⟨lineS hl, fun p hp => k p _ hp (.new hp) upd_same⟩
/-- at any free place -/
theorem g_new {o : HO} {F : Addr → Hp → Prop} (k : ∀ p H', H p = none → Mx [] H H' → H' p = some o → F p H') : ∀ p, H p = none → F p (upd H p o) := fun p hp => k p _ hp (.new hp) upd_same
/-! subscripts -/
theorem g_ixL {p : Addr} {xs : List V} {i : Int} (h : SqL K H p xs) (ha : atI xs i = some v) (k : Q v H) : rIxL K (.ref p) (.int i) H Q := ⟨p, xs, i, v, rfl, rfl, h, ha, k⟩
theorem g_ixT {p : Addr} {xs : List V} {i : Int} (h : SqT K H p xs) (ha : atI xs i = some v) (k : Q v H) : rIxT K (.ref p) (.int i) H Q := ⟨p, xs, i, v, rfl, rfl, h, ha, k⟩
theorem g_slice {r : V → Option Int → Option Int → Hp → VK → Prop} {te : TE} {tl th : TO} (k : te σ H fun x H1 => tl σ H1 fun l H2 => th σ H2 fun u H3 => r x l u H3 Q) : tSl r te tl th σ H Q := k
theorem g_noPart {QO : Option Int → Hp → Prop} (k : QO none H) : tNoPart σ H QO := k
def kPart (QO : Option Int → Hp → Prop) : VK := fun x H1 => ∃ i, x = .int i ∧ QO (some i) H1
theorem g_kPart {QO : Option Int → Hp → Prop} {i : Int} (k : QO (some i) H) : kPart QO (.int i) H := ⟨i, rfl, k⟩
theorem g_part {t : TE} {QO : Option Int → Hp → Prop} (k : t σ H (kPart QO)) : tPart t σ H QO := k
theorem g_slL {a : Addr} {xs : List V} {lo hi : Option Int} (h : SqL K H a xs) (k : ∀ p H', H p = none → Mx [] H H' → H' p = some (.lst (cutV xs lo hi)) → Q (.ref p) H') : rSlL K (.ref a) lo hi H Q :=
  ⟨a, xs, rfl, h, fun p hp => k p _ hp (.new hp) upd_same⟩
theorem g_slT {a : Addr} {xs : List V} {lo hi : Option Int} (h : SqT K H a xs) (hn : ¬ (HT.sIx xs.length 0 lo = 0 ∧ HT.sIx xs.length xs.length hi = xs.length)) (k : ∀ p H', H p = none → Mx [] H H' → H' p = some (.tup (cutV xs lo hi)) → Q (.ref p) H') : rSlT K (.ref a) lo hi H Q :=
  ⟨a, xs, rfl, h, hn, fun p hp => k p _ hp (.new hp) upd_same⟩
theorem g_cat {l b : Addr} {xs zs : List V} (h1 : H l = some (.lst xs)) (h2 : H b = some (.lst zs)) (hl : xs.length + zs.length ≤ 100000) (k : ∀ p H', H p = none → Mx [] H H' → H' p = some (.lst (xs ++ zs)) → Q (.ref p) H') : rCat (.ref l) (.ref b) H Q :=
  ⟨l, b, xs, zs, rfl, rfl, h1, h2, lineS hl, fun p hp => k p _ hp (.new hp) upd_same⟩
theorem g_rep {l : Addr} {n : Int} {xs : List V} (h1 : H l = some (.lst xs)) (h2 : 0 ≤ n) (h3 : n ≤ 1000) (hl : xs.length * n.toNat ≤ 100000) (k : ∀ p H', H p = none → Mx [] H H' → H' p = some (.lst (List.replicate n.toNat xs).flatten) → Q (.ref p) H') : rRep (.ref l) (.int n) H Q :=
  ⟨l, n, xs, rfl, rfl, h1, by omega, by omega, lineS hl, fun p hp => k p _ hp (.new hp) upd_same⟩
theorem g_setL {p : Addr} {xs : List V} {i : Int} {j : Nat} {QH : Hp → Prop} (h : H p = some (.lst xs)) (hi : ixN xs.length i = some j) (k : ∀ H', Mx [p] H H' → H' p = some (.lst (xs.set j v)) → QH H') : rSetL (.ref p) (.int i) v H QH :=
  ⟨p, xs, i, j, rfl, rfl, h, hi, k _ (.put (by simp)) upd_same⟩
/-! calls of built-ins -/
theorem g_CB {r : List V → Hp → VK → Prop} {t : TA} (k : t σ H fun vs H1 => r vs H1 Q) : tCB r t σ H Q := k
def rLen (K : PySem.W.Frag) : List V → Hp → VK → Prop := fun xs H Q => ∃ p ys, xs = [.ref p] ∧ (SqL K H p ys ∨ SqT K H p ys) ∧ Q (.int ys.length) H
theorem c_len {X : Cx} : CallR X (.builtin "len") (rLen X.K) := call_len_seq
theorem g_lenL {p : Addr} {ys : List V} (h : SqL K H p ys) (k : Q (.int (ys.length : Int)) H) : rLen K [.ref p] H Q := ⟨p, ys, rfl, .inl h, k⟩
theorem g_lenT {p : Addr} {ys : List V} (h : SqT K H p ys) (k : Q (.int (ys.length : Int)) H) : rLen K [.ref p] H Q := ⟨p, ys, rfl, .inr h, k⟩
def rListOf (K : PySem.W.Frag) : List V → Hp → VK → Prop := fun xs H Q => ∃ p ys, xs = [.ref p] ∧ (SqL K H p ys ∨ SqT K H p ys) ∧ ∀ l, H l = none → Q (.ref l) (upd H l (.lst ys))
theorem c_list {X : Cx} : CallR X (.type "list") (rListOf X.K) := call_list_of
theorem g_listL {p : Addr} {ys : List V} (h : SqL K H p ys) (k : ∀ l H', H l = none → Mx [] H H' → H' l = some (.lst ys) → Q (.ref l) H') : rListOf K [.ref p] H Q :=
  ⟨p, ys, rfl, .inl h, fun l hl => k l _ hl (.new hl) upd_same⟩
def rTupOf (K : PySem.W.Frag) : List V → Hp → VK → Prop := fun xs H Q => ∃ p ys, xs = [.ref p] ∧ ((SqL K H p ys ∧ ∀ l, H l = none → Q (.ref l) (upd H l (.tup ys))) ∨ (SqT K H p ys ∧ Q (.ref p) H))
theorem c_tuple {X : Cx} : CallR X (.type "tuple") (rTupOf X.K) := call_tuple_of
theorem g_tupleL {p : Addr} {ys : List V} (h : SqL K H p ys) (k : ∀ l H', H l = none → Mx [] H H' → H' l = some (.tup ys) → Q (.ref l) H') : rTupOf K [.ref p] H Q :=
  ⟨p, ys, rfl, .inl ⟨h, fun l hl => k l _ hl (.new hl) upd_same⟩⟩
def rMax2 : List V → Hp → VK → Prop := fun xs H Q => ∃ i j, xs = [.int i, .int j] ∧ Q (.int (if j > i then j else i)) H
theorem c_max {X : Cx} (hc : X.calm = true) : CallR X (.builtin "max") rMax2 := call_max2 hc
theorem g_max {i j : Int} (k : Q (.int (if j > i then j else i)) H) : rMax2 [.int i, .int j] H Q := ⟨i, j, rfl, k⟩
def rMin2 : List V → Hp → VK → Prop := fun xs H Q => ∃ i j, xs = [.int i, .int j] ∧ Q (.int (if j < i then j else i)) H
theorem c_min {X : Cx} (hc : X.calm = true) : CallR X (.builtin "min") rMin2 := call_min2 hc
theorem g_min {i j : Int} (k : Q (.int (if j < i then j else i)) H) : rMin2 [.int i, .int j] H Q := ⟨i, j, rfl, k⟩
def rInt1 : List V → Hp → VK → Prop := fun xs H Q => (∃ i, xs = [.int i] ∧ Q (.int i) H) ∨ ∃ k, xs = [.bl k] ∧ Q (.int (if k then 1 else 0)) H
theorem c_int {X : Cx} : CallR X (.type "int") rInt1 := call_int1
theorem g_intB {b : Bool} (k : Q (.int (if b then 1 else 0)) H) : rInt1 [.bl b] H Q := .inr ⟨b, rfl, k⟩
/-! fields -/
def kFld (K : PySem.W.Frag) (f : Str) (Q : VK) : VK := fun x H1 => ∃ a C dx fs v, x = .ref a ∧ H1 a = some (.ins C dx fs) ∧ Cls K C ∧ NoAttr K C f ∧ fs.lookup f = some v ∧ Q v H1
theorem g_fld {ta : TE} {f : Str} (k : ta σ H (kFld K f Q)) : tFld K ta f σ H Q := k
theorem g_kFld {f : Str} {a C dx : Addr} {fs : List (Str × V)} (h : H a = some (.ins C dx fs)) (c : Cls K C) (n : NoAttr K C f) (l : fs.lookup f = some v) (k : Q v H) : kFld K f Q (.ref a) H := ⟨a, C, dx, fs, v, rfl, h, c, n, l, k⟩
def kPut (K : PySem.W.Frag) (f : Str) (y : V) (N : Hp → Prop) : VK := fun x H2 => ∃ a C dx fs, x = .ref a ∧ H2 a = some (.ins C dx fs) ∧ Cls K C ∧ NoAttr K C f ∧ fs.length < 1000 ∧ N (upd H2 a (.ins C dx (putF f y fs)))
theorem g_put {ta tv : TE} {f : Str} (k : tv σ H fun y H1 => ta σ H1 (kPut K f y fun H3 => D.nx σ H3)) : sFld K ta tv f D σ H := k
theorem g_kPut {f : Str} {a C dx : Addr} {fs fs' : List (Str × V)} {N : Hp → Prop} (h : H a = some (.ins C dx fs)) (c : Cls K C) (n : NoAttr K C f) (e : putF f y fs = fs') (hl : fs.length < 1000)
    (k : ∀ H', Mx [a] H H' → H' a = some (.ins C dx fs') → N H') : kPut K f y N (.ref a) H := ⟨a, C, dx, fs, rfl, h, c, n, hl, by rw [e]; exact k _ (.put (by simp)) upd_same⟩
/-! dicts -/
def kDGet (x : V) (Q : VK) : VK := fun y H2 => ∃ a v, x = .ref a ∧ DGet H2 a y (some v) ∧ Q v H2
theorem g_dget {td ty : TE} (k : td σ H fun x H1 => ty σ H1 (kDGet x Q)) : tDGet td ty σ H Q := k
theorem g_kDGetS {a : Addr} {z : Str} {kvs : List (Key × V)} (h : H a = some (.dK kvs)) (l : valV kvs (Sum.inr z) = some v) (k : Q v H) : kDGet (.ref a) Q (.str z) H := ⟨a, v, rfl, l ▸ DGet.k (k := Sum.inr z) h, k⟩
theorem g_kDGetI {a : Addr} {z : Int} {kvs : List (Key × V)} (h : H a = some (.dK kvs)) (l : valV kvs (Sum.inl z) = some v) (k : Q v H) : kDGet (.ref a) Q (.int z) H := ⟨a, v, rfl, l ▸ DGet.k (k := Sum.inl z) h, k⟩
theorem g_kDGetIr {a : Addr} {z : Int} {kvs : List (Key × V)} (h : Rd H a (.dK kvs)) (l : valV kvs (Sum.inl z) = some v) (k : Q v H) : kDGet (.ref a) Q (.int z) H := ⟨a, v, rfl, l ▸ .inl ⟨kvs, Sum.inl z, h, rfl, rfl⟩, k⟩
/-! statements -/
theorem g_seq {t u : TS} (k : t { D with nx := u D } σ H) : tSeq t u D σ H := k
theorem g_next (k : D.nx σ H) : tNext D σ H := k
theorem g_asg {te : TE} {g : TG} (k : te σ H fun x H1 => g x σ H1 D.nx) : tAsg te g D σ H := k
theorem g_name {i : Nat} {QS : L2.St → Hp → Prop} (k : QS (σ.set i (some v)) H) : gName i v σ H QS := k
theorem g_drop {te : TE} (k : te σ H fun _ H1 => D.nx σ H1) : tDrop te D σ H := k
theorem g_ret {te : TE} (k : te σ H D.rt) : tRet te D σ H := k
theorem g_retN (k : D.rt .non H) : tRetN D σ H := k
theorem g_if {c : TT} {t u : TS} (k : c σ H fun b H1 => if b = true then t D σ H1 else u D σ H1) : tIfS c t u D σ H := k
theorem g_sub {to ti : TE} {t : TSet} {QS : L2.St → Hp → Prop} (k : to σ H fun o H1 => ti σ H1 fun i H2 => t o i v H2 fun H3 => QS σ H3) : gSub to ti t v σ H QS := k
theorem g_gtup {n : Nat} {t : TGs} {a : Addr} {xs : List V} {QS : L2.St → Hp → Prop} (h : SqT K H a xs) (hl : xs.length = n) (k : t xs σ H QS) : gTup K n t (.ref a) σ H QS := ⟨a, xs, rfl, h, hl, k⟩
theorem g_gcons {t : TG} {u : TGs} {r : List V} {QS : L2.St → Hp → Prop} (k : t v σ H fun σ' H' => u r σ' H' QS) : gCons t u (v :: r) σ H QS := ⟨v, r, rfl, k⟩
theorem g_gnil {QS : L2.St → Hp → Prop} (k : QS σ H) : gNil [] σ H QS := ⟨rfl, k⟩
/-! calls of the text's own defs -/
theorem g_call {sp : Sp} {dvs : List V} {E : XK} {t : TA} (k : t σ H fun vs H1 => sp (vs ++ dvs) H1 Q E) : tCall sp dvs E t σ H Q := k
def kMeth (C : Addr) (m : Str) (sp : Sp) (dvs : List V) (E : XK) (t : TA) (σ : L2.St) (Q : VK) : VK := fun x H1 => ∃ a dx fs, x = .ref a ∧ H1 a = some (.ins C dx fs) ∧ fs.lookup m = none ∧ t σ H1 fun vs H2 => sp (x :: (vs ++ dvs)) H2 Q E
theorem g_meth {C : Addr} {m : Str} {sp : Sp} {dvs : List V} {E : XK} {ta : TE} {t : TA} (k : ta σ H (kMeth C m sp dvs E t σ Q)) : tMeth C m sp dvs E ta t σ H Q := k
theorem g_kMeth {C a dx : Addr} {m : Str} {sp : Sp} {dvs : List V} {E : XK} {t : TA} {fs : List (Str × V)} (h : H a = some (.ins C dx fs)) (l : fs.lookup m = none) (k : t σ H fun vs H2 => sp (.ref a :: (vs ++ dvs)) H2 Q E) : kMeth C m sp dvs E t σ Q (.ref a) H := ⟨a, dx, fs, rfl, h, l, k⟩
/-! methods of built-in types -/
def kBM (K : PySem.W.Frag) (T : String) (r : V → List V → Hp → VK → Prop) (t : TA) (σ : L2.St) (Q : VK) : VK := fun x H1 => tyV K T x H1 ∧ t σ H1 fun xs H2 => r x xs H2 Q
theorem g_bm {T : String} {r : V → List V → Hp → VK → Prop} {to : TE} {t : TA} (k : to σ H (kBM K T r t σ Q)) : tBM K T r to t σ H Q := k
theorem g_kBM {r : V → List V → Hp → VK → Prop} {t : TA} {p : Addr} {xs : List V} (h : SqL K H p xs) (k : t σ H fun xs H2 => r (.ref p) xs H2 Q) : kBM K "list" r t σ Q (.ref p) H := ⟨.inl ⟨rfl, xs, h⟩, k⟩
def kBM0 (K : PySem.W.Frag) (T : String) (r : V → List V → Hp → VK → Prop) (Q : VK) : VK := fun x H1 => tyV K T x H1 ∧ r x [] H1 Q
theorem g_bm0 {T : String} {r : V → List V → Hp → VK → Prop} {to : TE} (k : to σ H (kBM0 K T r Q)) : tBM0 K T r to σ H Q := k
theorem g_kBM0 {r : V → List V → Hp → VK → Prop} {p : Addr} {xs : List V} (h : SqL K H p xs) (k : r (.ref p) [] H Q) : kBM0 K "list" r Q (.ref p) H := ⟨.inl ⟨rfl, xs, h⟩, k⟩
theorem g_append {l : Addr} {xs : List V} (h : H l = some (.lst xs)) (hl : xs.length < 100000) (k : ∀ H', Mx [l] H H' → H' l = some (.lst (xs ++ [y])) → Q .non H') : rAppend (.ref l) [y] H Q :=
  ⟨l, xs, y, rfl, rfl, h, lineL hl, k _ (.put (by simp)) upd_same⟩
theorem g_reverse {l : Addr} {xs : List V} (h : H l = some (.lst xs)) (k : ∀ H', Mx [l] H H' → H' l = some (.lst xs.reverse) → Q .non H') : rReverse (.ref l) [] H Q := ⟨l, xs, rfl, rfl, h, k _ (.put (by simp)) upd_same⟩
theorem g_clear {l : Addr} {xs : List V} (h : H l = some (.lst xs)) (k : ∀ H', Mx [l] H H' → H' l = some (.lst []) → Q .non H') : rClear (.ref l) [] H Q := ⟨l, xs, rfl, rfl, h, k _ (.put (by simp)) upd_same⟩
end
end Fk

set_option maxRecDepth 100000
namespace Fk
open PySem PySem.Spec PyProof.Rows L2
/-! ### what the text says of a def, a method, an error class -/
/-- a def of the module, called by its name -/
structure Cl (P : Program) (w : World) (K : PySem.W.Frag) (mg : Str → Option Value) (base : Heap) (k : Nat) (x : Str) (sp : Sp) (dvs : List V) : Prop where
  ex : ∃ (f : Addr) (fd : FuncData) (ps : List Str) (ds : List Value), FnOk P w K mg base (L2.CX P w) k f fd ps sp ∧ mg x = some (.ref f) ∧ PySem.W.keepIn K (.ref f) = true ∧ Binds K fd ps ds ∧ Vals dvs ds
/-- a method of the class at C -/
structure Me (P : Program) (w : World) (K : PySem.W.Frag) (mg : Str → Option Value) (base : Heap) (k : Nat) (C : Addr) (m : Str) (sp : Sp) (dvs : List V) : Prop where
  ex : ∃ (f : Addr) (fd : FuncData) (ps : List Str) (ds : List Value), Cls K C ∧ Meth K C m f ∧ FnOk P w K mg base (L2.CX P w) k f fd ps sp ∧ Binds K fd ps ds ∧ Vals dvs ds
/-- a class made by its name -/
structure Ma (P : Program) (w : World) (K : PySem.W.Frag) (mg : Str → Option Value) (base : Heap) (k : Nat) (x : Str) (C : Addr) (sp : Sp) (dvs : List V) : Prop where
  ex : ∃ (f : Addr) (fd : FuncData) (ps : List Str) (ds : List Value), Mk K C f ∧ FnOk P w K mg base (L2.CX P w) k f fd ps sp ∧ mg x = some (.ref C) ∧ Binds K fd ps ds ∧ Vals dvs ds
section
variable {X : Cx} {k j : Nat} {C : Addr} {x m : Str} {sp : Sp} {dvs : List V} {E : XK} {p pos apos : Pos} {e o : Expr} {es : List Expr} {ta : TE} {t : TA}
theorem q_call (c : Cl X.prog X.w X.K X.mg X.base k x sp dvs) (hr : Room j X.A) (hk : k ≤ j) (hg : Gl X x) (hx : Passes (L2.CX X.prog X.w) X E) (ha : PA X (e :: es) t)
    (hdb : (x == ("__debug__" : Str)) = false := by decide) (he : starEach (e :: es) X.env = (false, eval e X.env) :: starEach es X.env := by rfl) (hpl : (backTo pos (starEach es X.env)).any (·.1) = false := by rfl) :
    PE X (.Call (.Name x p) (e :: es) [] pos) (tCall sp dvs E t) := by
  obtain ⟨f, fd, ps, ds, F, hm, hk', hb, hd⟩ := c.ex
  exact pe_call F (hr.mono hk) hg hm hk' hb hd hx ha hdb he hpl
theorem q_call0 (c : Cl X.prog X.w X.K X.mg X.base k x sp dvs) (hr : Room j X.A) (hk : k ≤ j) (hg : Gl X x) (hx : Passes (L2.CX X.prog X.w) X E)
    (hdb : (x == ("__debug__" : Str)) = false := by decide) : PE X (.Call (.Name x p) [] [] pos) (tCall sp dvs E tNil) := by
  obtain ⟨f, fd, ps, ds, F, hm, hk', hb, hd⟩ := c.ex
  exact pe_call0 F (hr.mono hk) hg hm hk' hb hd hx hdb
theorem q_make (c : Ma X.prog X.w X.K X.mg X.base k x C sp dvs) (hr : Room j X.A) (hk : k + 1 ≤ j) (hg : Gl X x) (hx : Passes (L2.CX X.prog X.w) X E) (ha : PA X (e :: es) t)
    (hdb : (x == ("__debug__" : Str)) = false := by decide) (he : starEach (e :: es) X.env = (false, eval e X.env) :: starEach es X.env := by rfl) (hpl : (backTo pos (starEach es X.env)).any (·.1) = false := by rfl) :
    PE X (.Call (.Name x p) (e :: es) [] pos) (tMake C sp dvs E t) := by
  obtain ⟨f, fd, ps, ds, M, F, hm, hb, hd⟩ := c.ex
  exact pe_make M F (hr.mono hk) hg hm hb hd hx ha hdb he hpl
theorem q_meth {pl : Sem Bool} (c : Me X.prog X.w X.K X.mg X.base k C m sp dvs) (hr : Room j X.A) (hk : k ≤ j) (he : PE X o ta) (hx : Passes (L2.CX X.prog X.w) X E) (ha : PA X (e :: es) t)
    (hst : starEach (e :: es) X.env = (false, eval e X.env) :: starEach es X.env := by rfl) (hpl : (backTo pos (starEach es X.env)).any (·.1) = false := by rfl)
    (ht : eval (.Call (.Attribute o m apos) (e :: es) [] pos) X.env = (do
      let ov ← eval o X.env
      standAt apos.atName
      let (f, first) ← holding [ov] (getMethod ov m pl)
      callWith pos f first (backTo pos (starEach (e :: es) X.env)) (backToKw pos (keywordEach [] X.env))) := by rfl) :
    PE X (.Call (.Attribute o m apos) (e :: es) [] pos) (tMeth C m sp dvs E ta t) := by
  obtain ⟨f, fd, ps, ds, cl, hm, F, hb, hd⟩ := c.ex
  exact pe_meth he cl hm F (hr.mono hk) hb hd hx ha hst hpl ht
theorem q_meth0 {pl : Sem Bool} (c : Me X.prog X.w X.K X.mg X.base k C m sp dvs) (hr : Room j X.A) (hk : k ≤ j) (he : PE X o ta) (hx : Passes (L2.CX X.prog X.w) X E)
    (ht : eval (.Call (.Attribute o m apos) [] [] pos) X.env = (do
      let ov ← eval o X.env
      standAt apos.atName
      let (f, first) ← holding [ov] (getMethod ov m pl)
      callWith pos f first (backTo pos (starEach [] X.env)) (backToKw pos (keywordEach [] X.env))) := by rfl) :
    PE X (.Call (.Attribute o m apos) [] [] pos) (tMeth C m sp dvs E ta tNil) := by
  obtain ⟨f, fd, ps, ds, cl, hm, F, hb, hd⟩ := c.ex
  exact pe_meth0 he cl hm F (hr.mono hk) hb hd hx ht
end
/-- an own error class over ValueError without an __init__ -/
structure ExF (K : PySem.W.Frag) (mg : Str → Option Value) (x : Str) (C : Addr) : Prop where
  g : mg x = some (.ref C)
  xq : PySem.W.excIn K C [.type "ValueError", .type "Exception", .type "BaseException", .type "object"] "ValueError.__new__" = true
  k : PySem.W.keepIn K (.ref C) = true
  b : PySem.W.subIn K (.ref C) (.type "BaseException") = some true
  t : PySem.W.typeIn K (.ref C) = some (.type "type")
def tRaiseC (C : Addr) (W : WX) : TS := fun _ σ H => W (.ref C) none σ H
section
variable {X : Cx} {C : Addr} {W : WX} {x m : Str} {j : Nat} {p p2 pos pos2 : Pos}
theorem q_raise (hc : X.calm = true) (tk : Takes X W) (F : ExF X.K X.mg x C) (hg : Gl X x) (hdb : (x == ("__debug__" : Str)) = false := by decide) : PS X (.Raise (some (.Call (.Name x p) [.Constant (.str m) j p2] [] pos)) none pos2) (tRaiseC C W) :=
  ps_raise hc tk (pmk_own PySem.F.excBase_ValueError F.xq F.g F.k (raises_own F.b F.t) hg hdb)
end
theorem g_raise {C : Addr} {W : WX} {D : Ends} {σ : L2.St} {H : Hp} (k : W (.ref C) none σ H) : tRaiseC C W D σ H := k
/-- the text's facts of a def of the module -/
structure FnF (K : PySem.W.Frag) (mg : Str → Option Value) (x : Str) (st : Stmt) (ps : List Str) where
  a : Addr
  d : FuncData
  F : Fun K x x st a d
  g : mg x = some (.ref a)
  b : Binds K d ps []
/-- .. of a method of the class at C -/
structure MeF (K : PySem.W.Frag) (C : Addr) (m qual : Str) (st : Stmt) (ps : List Str) where
  a : Addr
  d : FuncData
  F : Fun K m qual st a d
  m : Meth K C m a
  b : Binds K d ps []
/-- .. of a method whose last parameter may be left out (None then) -/
structure MdF (K : PySem.W.Frag) (C : Addr) (m qual : Str) (st : Stmt) (ps : List Str) where
  a : Addr
  d : FuncData
  F : FunD K m qual (defArgs st) (defBody st) (defScope st) [.non] [] a d
  m : Meth K C m a
  b : Binds K d ps []
  b1 : ∃ ds, Vals [.non] ds ∧ Binds K d ps ds
section
variable {P : Program} {w : World} {K : PySem.W.Frag} {mg : Str → Option Value} {base : Heap} {x m qual : Str} {st : Stmt} {ps N : List Str} {C : Addr} {k : Nat} {sp : Sp}
theorem FnF.cl (F : FnF K mg x st ps) (S : FnScope N ps (defScope st)) (len : ∀ vs H Q E, sp vs H Q E → vs.length = ps.length)
    (hbody : ∀ (cdv : Value) (A : Around) (outer : List Env) (s : Shared) (H : Hp) (vs : List V) (Q : VK) (E : XK), Room k (A.deeper (envOfC x (defScope st) s.heap.objs.size F.a cdv)) → sp vs H Q E →
      ∃ t, PSs (cxOf (L2.CX P w) P w K mg base N x (defScope st) F.a cdv A outer s H E) (defBody st) t ∧ t { nx := fun _ H' => Q .non H', rt := Q } (start N vs) H) : Cl P w K mg base (k + 1) x sp [] :=
  ⟨F.a, F.d, ps, [], F.F.okX S len hbody, F.g, F.F.kp, F.b, .nil⟩
theorem MeF.me (F : MeF K C m qual st ps) (c : Cls K C) (S : FnScope N ps (defScope st)) (len : ∀ vs H Q E, sp vs H Q E → vs.length = ps.length)
    (hbody : ∀ (cdv : Value) (A : Around) (outer : List Env) (s : Shared) (H : Hp) (vs : List V) (Q : VK) (E : XK), Room k (A.deeper (envOfC qual (defScope st) s.heap.objs.size F.a cdv)) → sp vs H Q E →
      ∃ t, PSs (cxOf (L2.CX P w) P w K mg base N qual (defScope st) F.a cdv A outer s H E) (defBody st) t ∧ t { nx := fun _ H' => Q .non H', rt := Q } (start N vs) H) : Me P w K mg base (k + 1) C m sp [] :=
  ⟨F.a, F.d, ps, [], c, F.m, F.F.okX S len hbody, F.b, .nil⟩
theorem MdF.ok (F : MdF K C m qual st ps) (S : FnScope N ps (defScope st)) (len : ∀ vs H Q E, sp vs H Q E → vs.length = ps.length)
    (hbody : ∀ (cdv : Value) (A : Around) (outer : List Env) (s : Shared) (H : Hp) (vs : List V) (Q : VK) (E : XK), Room k (A.deeper (envOfC qual (defScope st) s.heap.objs.size F.a cdv)) → sp vs H Q E →
      ∃ t, PSs (cxOf (L2.CX P w) P w K mg base N qual (defScope st) F.a cdv A outer s H E) (defBody st) t ∧ t { nx := fun _ H' => Q .non H', rt := Q } (start N vs) H) : FnOk P w K mg base (L2.CX P w) (k + 1) F.a F.d ps sp :=
  F.F.ok S len hbody
theorem MdF.me (F : MdF K C m qual st ps) (c : Cls K C) (h : FnOk P w K mg base (L2.CX P w) k F.a F.d ps sp) : Me P w K mg base k C m sp [] := ⟨F.a, F.d, ps, [], c, F.m, h, F.b, .nil⟩
theorem MdF.me1 (F : MdF K C m qual st ps) (c : Cls K C) (h : FnOk P w K mg base (L2.CX P w) k F.a F.d ps sp) : Me P w K mg base k C m sp [.non] := by
  obtain ⟨ds, v, b⟩ := F.b1
  exact ⟨F.a, F.d, ps, ds, c, F.m, h, b, v⟩
end
end Fk

set_option maxRecDepth 100000
namespace Fk
open PySem PySem.Spec PyProof.Rows L2
/-! ### constants of the module -/
theorem q_const {X : Cx} {x : Str} {i : Int} {pos : Pos} (h : ∃ t, X.mg x = some (.int i t)) (hg : Gl X x) (hd : (x == ("__debug__" : Str)) = false := by decide) : PE X (.Name x pos) (tC (.int i)) := by
  obtain ⟨t, h⟩ := h
  exact pe_glob hg h ⟨t, rfl⟩ hd
/-! ### rules with the written part named -/
section
variable {X : Cx} (K : PySem.W.Frag)
theorem ixL (e : X.K = K := by rfl) : IxR X (rIxL K) := e ▸ ix_list
theorem ixT (e : X.K = K := by rfl) : IxR X (rIxT K) := e ▸ ix_tup
theorem slL (e : X.K = K := by rfl) : SlR X (rSlL K) := e ▸ sl_list
theorem slT (e : X.K = K := by rfl) : SlR X (rSlT K) := e ▸ sl_tup
theorem opIn (e : X.K = K := by rfl) : OpR X (compareOp .In) (rIn K false) := e ▸ op_in_seq
theorem opNin (e : X.K = K := by rfl) : OpR X (compareOp .NotIn) (rIn K true) := e ▸ op_notIn_seq
theorem opEqD (hu : X.A.units + 64 < cLine) (e : X.K = K := by rfl) : OpR X (compareOp .Eq) (rEqD K) := e ▸ op_eqD hu
theorem opNeD (hu : X.A.units + 64 < cLine) (e : X.K = K := by rfl) : OpR X (compareOp .NotEq) (rNeD K) := e ▸ op_neD hu
theorem opCatT (e : X.K = K := by rfl) : OpR X (binaryOp .Add) (rCatT K) := e ▸ op_catT
theorem cLen (e : X.K = K := by rfl) : CallR X (.builtin "len") (rLen K) := e ▸ c_len
theorem cList (e : X.K = K := by rfl) : CallR X (.type "list") (rListOf K) := e ▸ c_list
theorem cTuple (e : X.K = K := by rfl) : CallR X (.type "tuple") (rTupOf K) := e ▸ c_tuple
theorem fldK {e : Expr} {f : Str} {pos : Pos} {ta : TE} (he : PE X e ta) (hb : attributeBase e f X.env (eval e X.env) = eval e X.env) (ek : X.K = K := by rfl) : PE X (.Attribute e f pos) (tFld K ta f) := ek ▸ pe_fld he hb
theorem piL {tg l : Expr} {tl : TE} (hl : PE X l tl) (e : X.K = K := by rfl) : PI X tg l (iList K tl) := e ▸ pi_list hl
theorem piT {tg l : Expr} {tl : TE} (hl : PE X l tl) (e : X.K = K := by rfl) : PI X tg l (iTup K tl) := e ▸ pi_tup hl
theorem pgT (n : Nat) {es : List Expr} {k : Nat} {t : TGs} {pos : Pos} (hc : X.calm = true) (h : PGs X es t) (e : X.K = K := by rfl)
    (hn : (assignEach es X.env).length = n := by rfl) (hst : (assignEach es X.env).findIdx? (·.1) = none := by rfl) : PG X (.Tuple es k pos) (gTup K n t) := e ▸ pg_tup hc h hn hst
theorem bmK0 {o : Expr} {to : TE} {name : Str} {apos cpos : Pos} {T id : String} {r : V → List V → Hp → VK → Prop} (pa : PlainAttrs T) (slot : Slot T name id) (hty : typeOf (.builtin id) = pure (.type "method_descriptor")) (hm : MtR X id r) (ho : PE X o to) (ek : X.K = K := by rfl)
    (hbase : attributeBase o name X.env (eval o X.env) = eval o X.env := by rfl) (hline : (apos.endLine == cpos.line) = true := by rfl) : PE X (.Call (.Attribute o name apos) [] [] cpos) (tBM0 K T r to) := ek ▸ pe_bm0 pa slot hty hm ho hbase hline
theorem bmK {o e : Expr} {es : List Expr} {to : TE} {t : TA} {name : Str} {apos cpos : Pos} {T id : String} {r : V → List V → Hp → VK → Prop} (pa : PlainAttrs T) (slot : Slot T name id) (hty : typeOf (.builtin id) = pure (.type "method_descriptor")) (hm : MtR X id r) (ho : PE X o to) (ha : PA X (e :: es) t) (ek : X.K = K := by rfl)
    (hbase : attributeBase o name X.env (eval o X.env) = eval o X.env := by rfl)
    (hfew : ((backTo cpos (starEach (e :: es) X.env)).all (fun x => !x.1) && (backToKw cpos (keywordEach [] X.env)).all (fun x => x.1.isSome)
      && decide ((e :: es).length + ([] : List Keyword).length + (if ([] : List Keyword).isEmpty then 0 else 1) < 30)) = true := by rfl)
    (hline : (apos.endLine == cpos.line) = true := by rfl) (hs : starEach (e :: es) X.env = (false, eval e X.env) :: starEach es X.env := by rfl) (hplain : (backTo cpos (starEach es X.env)).any (·.1) = false := by rfl) :
    PE X (.Call (.Attribute o name apos) (e :: es) [] cpos) (tBM K T r to t) := ek ▸ pe_bm pa slot hty hm ho ha hbase hfew hline hs hplain
theorem psFld {o value : Expr} {f : Str} {pos pos' : Pos} {ta tv : TE} (ha : PE X o ta) (hv : PE X value tv) (hs : swapsWith value (some (.Attribute o f pos')) pos.line X.env = pure false) (ek : X.K = K := by rfl) : PS X (.Assign [.Attribute o f pos'] value pos) (sFld K ta tv f) := ek ▸ ps_fld ha hv hs
end
/-! ### numbers that are great, but not too great -/
theorem mulS {i j : Int} (hi : i.natAbs < 2 ^ 1000) (hj : j.natAbs < 2 ^ 1000) : CMulW i j := wide_mul hi hj (by omega) (by omega) (by omega)
theorem divS {i j : Int} (h : 0 < j) (hj : j.natAbs < 2 ^ 1000) : CDivW i j := wide_div h hj (by omega) (by omega)
/-! ### cells -/
/-- the i-th cell -/
def cl (cs : List Int) (i : Nat) : Int := cs.getD i 0
theorem cl_at {cs : List Int} {i : Nat} (h : i < cs.length) : (cs.map V.int)[i]? = some (.int (cl cs i)) := by
  rw [List.getElem?_map, List.getElem?_eq_getElem h]
  simp [cl, List.getD, h]
theorem cl_atE {cs : List Int} {i : Int} {n : Nat} (e : i = (n : Int)) (h : n < cs.length) : atI (cs.map V.int) i = some (.int (cl cs n)) := by
  subst e; exact atI_nat (cl_at h)
section
variable {K : PySem.W.Frag} {σ σ' : L2.St} {H : Hp} {Q : VK} {QA : List V → Hp → Prop} {D : Ends} {v x y : V} {R : It → Hp → Prop}
def kPar (i j : Nat) (D : Ends) (σ : L2.St) : List V → Hp → Prop := fun vs H1 => ∃ v w, vs = [v, w] ∧ D.nx ((σ.set i (some v)).set j (some w)) H1
theorem g_par {i j : Nat} {ta : TA} (k : ta σ H (kPar i j D σ)) : tPar i j ta D σ H := k
theorem g_kPar {i j : Nat} (k : D.nx ((σ.set i (some x)).set j (some y)) H) : kPar i j D σ [x, y] H := ⟨x, y, rfl, k⟩
/-! ### what is walked -/
def kR1 (R : It → Hp → Prop) : List V → Hp → Prop := fun vs H1 => ∃ j : Int, vs = [.int j] ∧ -(2 ^ 62) ≤ j ∧ j < 2 ^ 62 ∧ R (Itr 0 j.toNat) H1
theorem g_iR1 {ta : TA} (k : ta σ H (kR1 R)) : iRng1 ta σ H R := k
theorem g_kR1 {n : Int} (h0 : 0 ≤ n) (h1 : n ≤ 100000) (k : R (Itr 0 n.toNat) H) : kR1 R [.int n] H := ⟨n, rfl, by omega, by omega, k⟩
def kR2 (R : It → Hp → Prop) : List V → Hp → Prop := fun vs H1 => ∃ i j : Int, vs = [.int i, .int j] ∧ (-(2 ^ 62) ≤ i ∧ i < 2 ^ 62 ∧ -(2 ^ 62) ≤ j ∧ j < 2 ^ 62) ∧ R (Itr i (j - i).toNat) H1
theorem g_iR2 {ta : TA} (k : ta σ H (kR2 R)) : iRng2 ta σ H R := k
theorem g_kR2 {i j : Int} (h0 : -100000 ≤ i) (h1 : i ≤ 100000) (h2 : -100000 ≤ j) (h3 : j ≤ 100000) (k : R (Itr i (j - i).toNat) H) : kR2 R [.int i, .int j] H := ⟨i, j, rfl, ⟨by omega, by omega, by omega, by omega⟩, k⟩
def kL (K : PySem.W.Frag) (R : It → Hp → Prop) : VK := fun x H1 => ∃ a, x = .ref a ∧ (∃ xs, SqL K H1 a xs) ∧ R (Itl K a) H1
theorem g_iL {tl : TE} (k : tl σ H (kL K R)) : iList K tl σ H R := k
theorem g_kL {a : Addr} {xs : List V} (h : SqL K H a xs) (k : R (Itl K a) H) : kL K R (.ref a) H := ⟨a, rfl, ⟨xs, h⟩, k⟩
/-! ### for -/
def kFor (g : TG) (tb : TS) (D : Ends) (σ : L2.St) : It → Hp → Prop := fun J H1 => ∃ W : Nat → Nat → L2.St → Hp → Prop, (∃ m, W 0 m σ H1) ∧ ∀ i m σ H, W i m σ H →
  (J.stop i H ∧ D.nx σ H) ∨ (J.go i H ∧ ∃ N : L2.St → Hp → Prop, (∀ σ' H', N σ' H' → ∃ m', m' < m ∧ W (i + 1) m' σ' H') ∧ ∀ x H', J.yld i H x H' → g x σ H' fun σ2 H2 => tb { D with nx := N, ct := N, bk := D.nx } σ2 H2)
theorem g_for {wi : TI} {g : TG} {tb : TS} (k : wi σ H (kFor g tb D σ)) : tFor wi g tb D σ H := k
theorem g_forR {lo : Int} {n : Nat} {g : TG} {tb : TS} (Pv : Nat → L2.St → Hp → Prop) (h0 : Pv 0 σ H)
    (hs : ∀ i σ H, i < n → Pv i σ H → g (.int (lo + i)) σ H fun σ2 H2 => tb { D with nx := Pv (i + 1), ct := Pv (i + 1), bk := D.nx } σ2 H2) (hd : ∀ σ H, Pv n σ H → D.nx σ H) : kFor g tb D σ (Itr lo n) H :=
  for_range Pv h0 hs hd
theorem g_forL {a : Addr} {xs : List V} {g : TG} {tb : TS} (Pv : Nat → L2.St → Hp → Prop) (h0 : Pv 0 σ H) (hl : ∀ i σ H, i ≤ xs.length → Pv i σ H → SqL K H a xs)
    (hs : ∀ i x σ H, xs[i]? = some x → Pv i σ H → g x σ H fun σ2 H2 => tb { D with nx := Pv (i + 1), ct := Pv (i + 1), bk := D.nx } σ2 H2) (hd : ∀ σ H, Pv xs.length σ H → D.nx σ H) : kFor g tb D σ (Itl K a) H :=
  for_list Pv h0 hl hs hd
/-! ### comprehensions -/
def kLc (g : TG) (tt : TT) (te : TE) (vs : List Nat) (σ : L2.St) (Q : VK) : It → Hp → Prop := fun J H1 => ∀ D, H1 D = none → ∃ W : Nat → Nat → Hp → Prop, (∃ m, W 0 m (upd H1 D (.lst []))) ∧ ∀ i m H, W i m H →
  (J.stop i H ∧ Q (.ref D) H) ∨ (J.go i H ∧ ∃ Nx : Hp → Prop, (∀ H', Nx H' → ∃ m', m' < m ∧ W (i + 1) m' H') ∧ ∀ x H', J.yld i H x H' → g x (wipe σ vs) H' fun σ2 H2 => wipe σ2 vs = wipe σ vs ∧ tt σ2 H2 fun b H3 =>
    if b = true then te σ2 H3 fun y H4 => ∃ acc, H4 D = some (.lst acc) ∧ acc.length < sizeLine ∧ Nx (upd H4 D (.lst (acc ++ [y]))) else Nx H3)
theorem g_lc {wi : TI} {g : TG} {tt : TT} {te : TE} {vs : List Nat} (k : wi σ H (kLc g tt te vs σ Q)) : tLc wi g tt te vs σ H Q := k
theorem upd_Mx {H H' : Hp} {p : Addr} {o : HO} (h : H p = none) (m : Mx [] H H') : Mx [] H (upd H' p o) := fun a u e _ => by
  rw [upd_ne (ne_of_none e h)]; exact m a u e (by simp)
theorem range_fm {α : Type} (f : Nat → Option α) (i : Nat) : (List.range (i + 1)).filterMap f = (List.range i).filterMap f ++ (match f i with | some y => [y] | none => []) := by
  rw [List.range_succ, List.filterMap_append]
  congr 1
  cases h : f i <;> simp [List.filterMap, h]
theorem fm_len {α : Type} (f : Nat → Option α) (n : Nat) : ((List.range n).filterMap f).length ≤ n := by
  refine Nat.le_trans (List.length_filterMap_le _ _) ?_
  rw [List.length_range]; exact Nat.le_refl _
/-- one turn's test and item, nothing written -/
def LcTurn (tt : TT) (te : TE) (σ : L2.St) (H : Hp) (o : Option V) : Prop := tt σ H fun b H2 => if b = true then te σ H2 fun y H3 => Mx [] H H3 ∧ o = some y else Mx [] H H2 ∧ o = none
/-- readings are monotone in what is wanted: the two that the turn asks -/
structure Mono (tt : TT) (te : TE) : Prop where
  t : ∀ σ H (Q Q' : Bool → Hp → Prop), (∀ b H', Q b H' → Q' b H') → tt σ H Q → tt σ H Q'
  e : ∀ σ H (Q Q' : VK), (∀ v H', Q v H' → Q' v H') → te σ H Q → te σ H Q'
/-- over a range: the turn is shown for whatever it is to reach -/
theorem g_lcR {lo : Int} {n j : Nat} {tt : TT} {te : TE} {vs : List Nat} (f : Nat → Option V) (hw : ∀ x, wipe ((wipe σ vs).set j (some x)) vs = wipe σ vs) (hn : n ≤ 50000)
    (hs : ∀ (i : Nat) (H' : Hp) (QN : Option V → Hp → Prop), i < n → Mx [] H H' → (∀ o H3, Mx [] H' H3 → o = f i → QN o H3) →
      tt ((wipe σ vs).set j (some (.int (lo + i)))) H' fun b H3 => if b = true then te ((wipe σ vs).set j (some (.int (lo + i)))) H3 fun y H4 => QN (some y) H4 else QN none H3)
    (hd : ∀ Dl H', H Dl = none → Mx [] H H' → H' Dl = some (.lst ((List.range n).filterMap f)) → Q (.ref Dl) H') : kLc (gName j) tt te vs σ Q (Itr lo n) H := by
  intro Dl hDl
  refine lc_range (fun i H' => Mx [] H H' ∧ H' Dl = some (.lst ((List.range i).filterMap f))) ⟨.new hDl, upd_same⟩ (fun i H' hi hp => ?_) (fun H' hp => hd Dl H' hDl hp.1 hp.2)
  obtain ⟨m, e⟩ := hp
  refine ⟨hw _, ?_⟩
  have key := hs i H' (fun o H3 => match o with
    | some y => ∃ acc, H3 Dl = some (.lst acc) ∧ acc.length < sizeLine ∧ (Mx [] H (upd H3 Dl (.lst (acc ++ [y]))) ∧ upd H3 Dl (.lst (acc ++ [y])) Dl = some (.lst ((List.range (i + 1)).filterMap f)))
    | none => Mx [] H H3 ∧ H3 Dl = some (.lst ((List.range (i + 1)).filterMap f))) hi m ?_
  · exact key
  · intro o H3 m3 eo
    cases o with
    | some y =>
      refine ⟨_, m3.get0 e, lineL (Nat.lt_of_le_of_lt (fm_len f i) (by omega)), upd_Mx hDl (m.trans m3), ?_⟩
      rw [upd_same, range_fm, ← eo]
    | none =>
      refine ⟨m.trans m3, ?_⟩
      rw [range_fm, ← eo, List.append_nil]
      exact m3.get0 e
/-- over a list -/
theorem g_lcL {a : Addr} {xs : List V} {j : Nat} {tt : TT} {te : TE} {vs : List Nat} (f : Nat → Option V) (hw : ∀ x, wipe ((wipe σ vs).set j (some x)) vs = wipe σ vs) (hn : xs.length ≤ 50000) (hx : SqL K H a xs)
    (hs : ∀ (i : Nat) (x : V) (H' : Hp) (QN : Option V → Hp → Prop), xs[i]? = some x → Mx [] H H' → (∀ o H3, Mx [] H' H3 → o = f i → QN o H3) →
      tt ((wipe σ vs).set j (some x)) H' fun b H3 => if b = true then te ((wipe σ vs).set j (some x)) H3 fun y H4 => QN (some y) H4 else QN none H3)
    (hd : ∀ Dl H', H Dl = none → Mx [] H H' → H' Dl = some (.lst ((List.range xs.length).filterMap f)) → Q (.ref Dl) H') : kLc (gName j) tt te vs σ Q (Itl K a) H := by
  intro Dl hDl
  refine lc_list (xs := xs) (fun i H' => i ≤ xs.length ∧ Mx [] H H' ∧ H' Dl = some (.lst ((List.range i).filterMap f))) ⟨Nat.zero_le _, .new hDl, upd_same⟩ (fun i H' _ hp => hp.2.1.sqL0 hx) (fun i x H' hi hp => ?_) (fun H' hp => hd Dl H' hDl hp.2.1 hp.2.2)
  obtain ⟨le, m, e⟩ := hp
  have lt : i < xs.length := (List.getElem?_eq_some_iff.mp hi).1
  refine ⟨hw _, ?_⟩
  have key := hs i x H' (fun o H3 => match o with
    | some y => ∃ acc, H3 Dl = some (.lst acc) ∧ acc.length < sizeLine ∧ (i + 1 ≤ xs.length ∧ Mx [] H (upd H3 Dl (.lst (acc ++ [y]))) ∧ upd H3 Dl (.lst (acc ++ [y])) Dl = some (.lst ((List.range (i + 1)).filterMap f)))
    | none => i + 1 ≤ xs.length ∧ Mx [] H H3 ∧ H3 Dl = some (.lst ((List.range (i + 1)).filterMap f))) hi m ?_
  · exact key
  · intro o H3 m3 eo
    cases o with
    | some y =>
      refine ⟨_, m3.get0 e, lineL (Nat.lt_of_le_of_lt (fm_len f i) (by omega)), lt, upd_Mx hDl (m.trans m3), ?_⟩
      rw [upd_same, range_fm, ← eo]
    | none =>
      refine ⟨lt, m.trans m3, ?_⟩
      rw [range_fm, ← eo, List.append_nil]
      exact m3.get0 e
end
end Fk

set_option maxRecDepth 100000
namespace Fk
open PySem PySem.Spec PyProof.Rows L2
end Fk
namespace L2
open PySem PySem.Spec PyProof.Rows Fk
/-! ### data on the heap -/
mutual
theorem Dp.mx {K : PySem.W.Frag} {H H' : Hp} (m : Mx [] H H') : ∀ {v : V} {d : PyData}, Dp K H v d → Dp K H' v d
  | _, _, .non => .non
  | _, _, .bl b => .bl b
  | _, _, .int i => .int i
  | _, _, .str x => .str x
  | _, _, .lst h a => .lst (m.sqL0 h) (DpAll.mx m a)
  | _, _, .tup h a => .tup (m.sqT0 h) (DpAll.mx m a)
theorem DpAll.mx {K : PySem.W.Frag} {H H' : Hp} (m : Mx [] H H') : ∀ {vs : List V} {ds : List PyData}, DpAll K H vs ds → DpAll K H' vs ds
  | _, _, .nil => .nil
  | _, _, .cons h r => .cons (Dp.mx m h) (DpAll.mx m r)
end
end L2
namespace Fk
open PySem PySem.Spec PyProof.Rows L2
mutual
/-- no list within -/
def frz : PyData → Bool
  | .none | .bool _ | .int _ | .str _ => true
  | .tuple xs => frzAll xs
  | .list _ | .dict _ => false
def frzAll : List PyData → Bool
  | [] => true
  | x :: xs => frz x && frzAll xs
end
/-- what is written are no tuples -/
def NoTup (H : Hp) (S : List Addr) : Prop := ∀ x ∈ S, ∀ u, H x = some u → (∀ ys, u ≠ .tup ys) ∧ ∀ o w, u ≠ .frz o w
theorem Mx.sqTw {K : PySem.W.Frag} {S : List Addr} {H H' : Hp} {a : Addr} {xs : List V} (m : Mx S H H') (n : NoTup H S) (h : SqT K H a xs) : SqT K H' a xs := by
  rcases h with (h | ⟨o, h⟩) | h
  · exact .inl (.inl (m a _ h fun z => (n a z _ h).1 xs rfl))
  · exact .inl (.inr ⟨o, m a _ h fun z => (n a z _ h).2 _ _ rfl⟩)
  · exact .inr h
end Fk
namespace L2
open PySem PySem.Spec PyProof.Rows Fk
mutual
theorem Dp.mxT {K : PySem.W.Frag} {S : List Addr} {H H' : Hp} (m : Mx S H H') (n : NoTup H S) : ∀ {v : V} {d : PyData}, frz d = true → Dp K H v d → Dp K H' v d
  | _, _, _, .non => .non
  | _, _, _, .bl b => .bl b
  | _, _, _, .int i => .int i
  | _, _, _, .str x => .str x
  | _, _, f, .lst h a => by simp [frz] at f
  | _, _, f, .tup h a => .tup (m.sqTw n h) (DpAll.mxT m n (by simpa [frz] using f) a)
theorem DpAll.mxT {K : PySem.W.Frag} {S : List Addr} {H H' : Hp} (m : Mx S H H') (n : NoTup H S) : ∀ {vs : List V} {ds : List PyData}, frzAll ds = true → DpAll K H vs ds → DpAll K H' vs ds
  | _, _, _, .nil => .nil
  | v :: vs, d :: ds, f, .cons h r => by
    have q : frz d = true ∧ frzAll ds = true := by simpa [frzAll] using f
    exact .cons (Dp.mxT m n q.1 h) (DpAll.mxT m n q.2 r)
end
theorem DpAll.len {K : PySem.W.Frag} {H : Hp} : ∀ {vs : List V} {ds : List PyData}, DpAll K H vs ds → vs.length = ds.length
  | _, _, .nil => rfl
  | _, _, .cons _ r => by simp [DpAll.len r]
theorem DpAll.app {K : PySem.W.Frag} {H : Hp} : ∀ {vs ws : List V} {ds es : List PyData}, DpAll K H vs ds → DpAll K H ws es → DpAll K H (vs ++ ws) (ds ++ es)
  | _, _, _, _, .nil, q => q
  | _, _, _, _, .cons h r, q => .cons h (DpAll.app r q)
theorem DpAll.get {K : PySem.W.Frag} {H : Hp} : ∀ {vs : List V} {ds : List PyData} {i : Nat} {d : PyData}, DpAll K H vs ds → ds[i]? = some d → ∃ v, vs[i]? = some v ∧ Dp K H v d
  | _, _, _, _, .nil, e => by simp at e
  | _, _, 0, _, .cons h _, e => by simp at e; subst e; exact ⟨_, rfl, h⟩
  | _, _, i + 1, _, .cons _ r, e => by
    obtain ⟨v, h1, h2⟩ := DpAll.get (i := i) r (by simpa using e)
    exact ⟨v, by simpa using h1, h2⟩
theorem DpAll.get' {K : PySem.W.Frag} {H : Hp} : ∀ {vs : List V} {ds : List PyData} {i : Nat} {v : V}, DpAll K H vs ds → vs[i]? = some v → ∃ d, ds[i]? = some d ∧ Dp K H v d
  | _, _, _, _, .nil, e => by simp at e
  | _, _, 0, _, .cons h _, e => by simp at e; subst e; exact ⟨_, rfl, h⟩
  | _, _, i + 1, _, .cons _ r, e => by
    obtain ⟨v, h1, h2⟩ := DpAll.get' (i := i) r (by simpa using e)
    exact ⟨v, by simpa using h1, h2⟩
theorem DpAll.take {K : PySem.W.Frag} {H : Hp} : ∀ {vs : List V} {ds : List PyData} (n : Nat), DpAll K H vs ds → DpAll K H (vs.take n) (ds.take n)
  | _, _, 0, _ => by simp; exact .nil
  | _, _, n + 1, .nil => by simp; exact .nil
  | _, _, n + 1, .cons h r => by simp; exact .cons h (DpAll.take n r)
theorem DpAll.drop {K : PySem.W.Frag} {H : Hp} : ∀ {vs : List V} {ds : List PyData} (n : Nat), DpAll K H vs ds → DpAll K H (vs.drop n) (ds.drop n)
  | _, _, 0, h => by simpa using h
  | _, _, n + 1, .nil => by simp; exact .nil
  | _, _, n + 1, .cons h r => by simpa using DpAll.drop n r
theorem DpAll.ints {K : PySem.W.Frag} {H : Hp} : ∀ ns : List Int, DpAll K H (ns.map V.int) (ns.map PyData.int)
  | [] => .nil
  | n :: r => .cons (.int n) (DpAll.ints r)
theorem Dp.ints {K : PySem.W.Frag} {H : Hp} {a : Addr} {ns : List Int} (h : SqL K H a (ns.map V.int)) : Dp K H (.ref a) (.list (ns.map PyData.int)) := .lst h (DpAll.ints ns)
end L2
namespace Fk
open PySem PySem.Spec PyProof.Rows L2
/-! ### data that == tells apart as it is -/
theorem lay_ints : ∀ ns : List Int, PyData.canLayAll0 (ns.map PyData.int) = true
  | [] => rfl
  | n :: r => by simp [PyData.canLayAll0, PyData.canLay0, lay_ints r]
theorem dep_ints : ∀ ns : List Int, PyData.depthAll (ns.map PyData.int) = 0
  | [] => rfl
  | n :: r => by simp [PyData.depthAll, PyData.depth, dep_ints r]
theorem shaped_ints (ns : List Int) : SeqAt.shaped (.list (ns.map PyData.int)) = true := by
  simp [SeqAt.shaped, PyData.canLay0, lay_ints, PyData.depth, dep_ints]
theorem eqv_ints : ∀ xs ys : List Int, PyData.eqvAll (xs.map PyData.int) (ys.map PyData.int) = decide (xs = ys)
  | [], [] => rfl
  | [], _ :: _ => by simp [PyData.eqvAll]
  | _ :: _, [] => by simp [PyData.eqvAll]
  | x :: xs, y :: ys => by
    simp only [List.map_cons, PyData.eqvAll, PyData.eqv, eqv_ints xs ys]
    by_cases h : x = y <;> simp [h]
/-- a stamp, a tuple of two -/
def stD (s : Int × Int) : PyData := .tuple [.int s.1, .int s.2]
theorem lay_sts : ∀ ns : List (Int × Int), PyData.canLayAll0 (ns.map stD) = true
  | [] => rfl
  | n :: r => by simp [PyData.canLayAll0, PyData.canLay0, stD, lay_sts r]
theorem dep_sts : ∀ ns : List (Int × Int), PyData.depthAll (ns.map stD) ≤ 1
  | [] => by simp [PyData.depthAll]
  | n :: r => by have := dep_sts r; simp [PyData.depthAll, PyData.depth, stD]; omega
theorem shaped_sts (ns : List (Int × Int)) : SeqAt.shaped (.list (ns.map stD)) = true := by
  have := dep_sts ns
  simp [SeqAt.shaped, PyData.canLay0, lay_sts, PyData.depth]
  omega
theorem eqv_sts : ∀ xs ys : List (Int × Int), PyData.eqvAll (xs.map stD) (ys.map stD) = decide (xs = ys)
  | [], [] => rfl
  | [], _ :: _ => by simp [PyData.eqvAll]
  | _ :: _, [] => by simp [PyData.eqvAll]
  | x :: xs, y :: ys => by
    obtain ⟨a, b⟩ := x; obtain ⟨c, d⟩ := y
    simp only [List.map_cons, PyData.eqvAll, PyData.eqv, eqv_sts xs ys, stD]
    by_cases h : a = c <;> by_cases h' : b = d <;> simp [h, h']
theorem frz_sts : ∀ ns : List (Int × Int), frzAll (ns.map stD) = true
  | [] => rfl
  | n :: r => by simp [frzAll, frz, stD, frz_sts r]
theorem frz_ints : ∀ ns : List Int, frzAll (ns.map PyData.int) = true
  | [] => rfl
  | n :: r => by simp [frzAll, frz, frz_ints r]
theorem _root_.L2.Dp.st {K : PySem.W.Frag} {H : Hp} {v : V} {s : Int × Int} (h : Dp K H v (stD s)) : ∃ a, v = .ref a ∧ SqT K H a [.int s.1, .int s.2] := by
  unfold stD at h
  cases h with
  | tup h a =>
    cases a with
    | cons h1 r1 => cases h1; cases r1 with
      | cons h2 r2 => cases h2; cases r2; exact ⟨_, rfl, h⟩
theorem _root_.L2.Dp.mkSt {K : PySem.W.Frag} {H : Hp} {a : Addr} {s : Int × Int} (h : SqT K H a [.int s.1, .int s.2]) : Dp K H (.ref a) (stD s) := .tup h (.cons (.int _) (.cons (.int _) .nil))
theorem noTup1 {H : Hp} {l : Addr} {xs : List V} (h : H l = some (.lst xs)) : NoTup H [l] := fun x hx u e => by
  simp at hx; subst hx; rw [h] at e; cases e; exact ⟨(fun _ z => nomatch z), (fun _ _ z => nomatch z)⟩
theorem Mx.sts {K : PySem.W.Frag} {S : List Addr} {H H' : Hp} {vs : List V} {ss : List (Int × Int)} (m : Mx S H H') (n : NoTup H S) (h : DpAll K H vs (ss.map stD)) : DpAll K H' vs (ss.map stD) := DpAll.mxT m n (frz_sts ss) h
theorem Mx.own {S : List Addr} {H H1 H2 : Hp} {p : Addr} (m : Mx S H H1) (f : H p = none) (k : Mx [p] H1 H2) : Mx S H H2 := fun a o e n =>
  k a o (m a o e n) (by simp; exact ne_of_none e f)
theorem ixE {n j : Nat} {i : Int} (e : i = (j : Int)) (h : j < n) : ixN n i = some j := by
  subst e; unfold ixN; rw [if_pos (by omega), if_pos (by omega)]; rfl
theorem g_setI {H : Hp} {p : Addr} {ns : List Int} {i z : Int} {j : Nat} {QH : Hp → Prop} (h : H p = some (.lst (ns.map V.int))) (e : i = (j : Int)) (hj : j < ns.length)
    (k : ∀ H', Mx [p] H H' → H' p = some (.lst ((ns.set j z).map V.int)) → QH H') : rSetL (.ref p) (.int i) (.int z) H QH :=
  g_setL h (ixE e (by rw [List.length_map]; exact hj)) fun H' m q => k H' m (by rw [q, List.map_set])
section
variable {K : PySem.W.Frag} {H : Hp} {Q : VK} {x y : V}
theorem g_eqD {d e : PyData} (h1 : Dp K H x d) (h2 : Dp K H y e) (s1 : SeqAt.shaped d = true) (s2 : SeqAt.shaped e = true) (k : Q (.bl (PyData.eqv d e)) H) : rEqD K x y H Q := ⟨d, e, h1, h2, s1, s2, k⟩
theorem g_neD {d e : PyData} (h1 : Dp K H x d) (h2 : Dp K H y e) (s1 : SeqAt.shaped d = true) (s2 : SeqAt.shaped e = true) (k : Q (.bl (!PyData.eqv d e)) H) : rNeD K x y H Q := ⟨d, e, h1, h2, s1, s2, k⟩
/-- two lists of ints -/
theorem g_eqI {a b : Addr} {xs ys : List Int} (h1 : SqL K H a (xs.map V.int)) (h2 : SqL K H b (ys.map V.int)) (k : Q (.bl (decide (xs = ys))) H) : rEqD K (.ref a) (.ref b) H Q :=
  g_eqD (Dp.ints h1) (Dp.ints h2) (shaped_ints xs) (shaped_ints ys) (by rw [PyData.eqv, eqv_ints]; exact k)
theorem g_neI {a b : Addr} {xs ys : List Int} (h1 : SqL K H a (xs.map V.int)) (h2 : SqL K H b (ys.map V.int)) (k : Q (.bl (!decide (xs = ys))) H) : rNeD K (.ref a) (.ref b) H Q :=
  g_neD (Dp.ints h1) (Dp.ints h2) (shaped_ints xs) (shaped_ints ys) (by rw [PyData.eqv, eqv_ints]; exact k)
theorem g_eqS {a b : Addr} {xs ys : List (Int × Int)} (h1 : Dp K H (.ref a) (.list (xs.map stD))) (h2 : Dp K H (.ref b) (.list (ys.map stD))) (k : Q (.bl (decide (xs = ys))) H) : rEqD K (.ref a) (.ref b) H Q :=
  g_eqD h1 h2 (shaped_sts xs) (shaped_sts ys) (by rw [PyData.eqv, eqv_sts]; exact k)
theorem g_neS {a b : Addr} {xs ys : List (Int × Int)} (h1 : Dp K H (.ref a) (.list (xs.map stD))) (h2 : Dp K H (.ref b) (.list (ys.map stD))) (k : Q (.bl (!decide (xs = ys))) H) : rNeD K (.ref a) (.ref b) H Q :=
  g_neD h1 h2 (shaped_sts xs) (shaped_sts ys) (by rw [PyData.eqv, eqv_sts]; exact k)
end
end Fk

set_option maxRecDepth 100000
namespace Fk
open PySem PySem.Spec PyProof.Rows L2
section
variable {K : PySem.W.Frag} {σ σ' : L2.St} {H : Hp} {Q : VK} {D : Ends} {v x y : V} {R : It → Hp → Prop}
/-! ### a dict locked while it is walked -/
theorem g_lock {t : TS} {d : Addr} {u : HO} (h : H d = some u) (mu : Mut (some u))
    (k : ∀ od H1, Mx [d] H H1 → H1 d = some (.frz od u) → t ⟨fun σ' H' => H' d = some (.frz od u) ∧ D.nx σ' (upd H' d u), fun v H' => H' d = some (.frz od u) ∧ D.rt v (upd H' d u), fun σ' H' => H' d = some (.frz od u) ∧ D.bk σ' (upd H' d u), fun σ' H' => H' d = some (.frz od u) ∧ D.ct σ' (upd H' d u)⟩ σ H1) : tLock t D σ H :=
  ⟨d, u, h, mu, fun od => k od _ (.put (by simp)) upd_same⟩
def kKeys (R : It → Hp → Prop) : VK := fun x H1 => ∃ d o, x = .ref d ∧ ((∃ kvs, H1 d = some (.frz o (.dK kvs)) ∧ R (Itk d o kvs) H1) ∨ ∃ kvs, H1 d = some (.frz o (.dT kvs)) ∧ R (Itkt d o kvs) H1)
theorem g_iK {td : TE} (k : td σ H (kKeys R)) : iKeys td σ H R := k
theorem g_kKeys {d : Addr} {o : Obj} {kvs : List (Key × V)} (h : H d = some (.frz o (.dK kvs))) (k : R (Itk d o kvs) H) : kKeys R (.ref d) H := ⟨d, o, rfl, .inl ⟨kvs, h, k⟩⟩
theorem g_forK {d : Addr} {o : Obj} {kvs : List (Key × V)} {g : TG} {tb : TS} (Pv : Nat → L2.St → Hp → Prop) (h0 : Pv 0 σ H) (hl : ∀ i σ H, Pv i σ H → H d = some (.frz o (.dK kvs)))
    (hs : ∀ i k v σ H, kvs[i]? = some (k, v) → Pv i σ H → g (kV k) σ H fun σ2 H2 => tb { D with nx := Pv (i + 1), ct := Pv (i + 1), bk := D.nx } σ2 H2) (hd : ∀ σ H, Pv kvs.length σ H → D.nx σ H) : kFor g tb D σ (Itk d o kvs) H := by
  refine ⟨fun i m σ H => Pv i σ H ∧ i + m = kvs.length, ⟨kvs.length, h0, by simp⟩, fun i m σ H ⟨p, e⟩ => ?_⟩
  have hh := hl i σ H p
  by_cases hi : i < kvs.length
  · refine .inr ⟨⟨hh, hi⟩, fun σ' H' => Pv (i + 1) σ' H', fun σ' H' q => ⟨m - 1, by omega, q, by omega⟩, fun x H' hy => ?_⟩
    obtain ⟨rfl, k, v, hk, rfl⟩ := hy
    exact hs i k v σ H' hk p
  · have : i = kvs.length := by omega
    subst this
    exact .inl ⟨⟨hh, Nat.le_refl _⟩, hd σ H p⟩
/-! ### several ways, one going on -/
theorem g_cut {te : TE} (R : VK → Prop) (h : ∀ Q' : VK, R Q' → te σ H Q') (k : R Q) : te σ H Q := h Q k
theorem g_cutT {te : TT} {Q : Bool → Hp → Prop} (R : (Bool → Hp → Prop) → Prop) (h : ∀ Q' : Bool → Hp → Prop, R Q' → te σ H Q') (k : R Q) : te σ H Q := h Q k
theorem g_cutS {t : TS} (R : (L2.St → Hp → Prop) → Prop) (h : ∀ N, R N → t { D with nx := N } σ H) (k : R D.nx) : t D σ H := h D.nx k
/-! ### comprehensions that make data -/
theorem tup_wr {H : Hp} {ws : List V} {ds : List PyData} {p : Addr} {o : HO} {us : List V} (h : H p = some (.lst us)) (f : frzAll ds = true) (d : DpAll K H ws ds) : DpAll K (upd H p o) ws ds :=
  d.mxT (.put (S := [p]) (by simp)) (noTup1 h) f
theorem frzAll_map {α : Type} {f : α → PyData} : ∀ {l : List α}, (∀ a ∈ l, frz (f a) = true) → frzAll (l.map f) = true
  | [], _ => rfl
  | a :: l, h => by
    rw [List.map_cons, frzAll, h a List.mem_cons_self, frzAll_map fun b hb => h b (List.mem_cons_of_mem _ hb)]
    rfl
theorem g_lcRD {lo : Int} {n j : Nat} {te : TE} {vs : List Nat} (ds : Nat → PyData) (fz : ∀ i, frz (ds i) = true) (hw : ∀ x, wipe ((wipe σ vs).set j (some x)) vs = wipe σ vs) (hn : n ≤ 50000)
    (hs : ∀ (i : Nat) (H' : Hp) (QN : VK), i < n → Mx [] H H' → (∀ y H3, Mx [] H' H3 → Dp K H3 y (ds i) → QN y H3) → te ((wipe σ vs).set j (some (.int (lo + i)))) H' QN)
    (hd : ∀ Dl H' ws, H Dl = none → Mx [] H H' → H' Dl = some (.lst ws) → DpAll K H' ws ((List.range n).map ds) → Q (.ref Dl) H') : kLc (gName j) tYes te vs σ Q (Itr lo n) H := by
  intro Dl hDl
  refine lc_range (fun i H' => Mx [] H H' ∧ ∃ ws, H' Dl = some (.lst ws) ∧ DpAll K H' ws ((List.range i).map ds)) ⟨.new hDl, [], upd_same, .nil⟩ (fun i H' hi hp => ?_) (fun H' hp => ?_)
  · obtain ⟨m, ws, e, d⟩ := hp
    refine ⟨hw _, ?_⟩
    show te _ H' _
    refine hs i H' _ hi m fun y H3 m3 dy => ?_
    have lw := d.len
    rw [List.length_map, List.length_range] at lw
    refine ⟨ws, m3.get0 e, lineL (by omega), upd_Mx hDl (m.trans m3), _, upd_same, ?_⟩
    rw [List.range_succ, List.map_append]
    have f1 : frzAll ((List.range i).map ds ++ [i].map ds) = true := by rw [← List.map_append]; exact frzAll_map fun a _ => fz a
    exact tup_wr (m3.get0 e) f1 ((d.mx m3).app (.cons dy .nil))
  · obtain ⟨m, ws, e, d⟩ := hp
    exact hd Dl H' ws hDl m e d
theorem g_lcLD {a : Addr} {xs : List V} {j : Nat} {te : TE} {vs : List Nat} (ds : Nat → PyData) (fz : ∀ i, frz (ds i) = true) (hw : ∀ x, wipe ((wipe σ vs).set j (some x)) vs = wipe σ vs) (hn : xs.length ≤ 50000) (hx : SqL K H a xs)
    (hs : ∀ (i : Nat) (x : V) (H' : Hp) (QN : VK), xs[i]? = some x → Mx [] H H' → (∀ y H3, Mx [] H' H3 → Dp K H3 y (ds i) → QN y H3) → te ((wipe σ vs).set j (some x)) H' QN)
    (hd : ∀ Dl H' ws, H Dl = none → Mx [] H H' → H' Dl = some (.lst ws) → DpAll K H' ws ((List.range xs.length).map ds) → Q (.ref Dl) H') : kLc (gName j) tYes te vs σ Q (Itl K a) H := by
  intro Dl hDl
  refine lc_list (xs := xs) (fun i H' => i ≤ xs.length ∧ Mx [] H H' ∧ ∃ ws, H' Dl = some (.lst ws) ∧ DpAll K H' ws ((List.range i).map ds)) ⟨Nat.zero_le _, .new hDl, [], upd_same, .nil⟩ (fun i H' _ hp => hp.2.1.sqL0 hx) (fun i x H' hi hp => ?_) (fun H' hp => ?_)
  · obtain ⟨le, m, ws, e, d⟩ := hp
    have lt : i < xs.length := (List.getElem?_eq_some_iff.mp hi).1
    refine ⟨hw _, ?_⟩
    show te _ H' _
    refine hs i x H' _ hi m fun y H3 m3 dy => ?_
    have lw := d.len
    rw [List.length_map, List.length_range] at lw
    refine ⟨ws, m3.get0 e, lineL (by omega), lt, upd_Mx hDl (m.trans m3), _, upd_same, ?_⟩
    rw [List.range_succ, List.map_append]
    have f1 : frzAll ((List.range i).map ds ++ [i].map ds) = true := by rw [← List.map_append]; exact frzAll_map fun a _ => fz a
    exact tup_wr (m3.get0 e) f1 ((d.mx m3).app (.cons dy .nil))
  · obtain ⟨_, m, ws, e, d⟩ := hp
    exact hd Dl H' ws hDl m e d
end
end Fk

set_option maxRecDepth 100000
namespace Fk
open PySem PySem.Spec PyProof.Rows L2
section
variable {X : Cx} (K : PySem.W.Frag)
theorem ixQ (e : X.K = K := by rfl) : IxR X (rIx K) := e ▸ ix_seq
theorem cIsi (e : X.K = K := by rfl) : CallR X (.builtin "isinstance") (rIsi K) := e ▸ call_isi
theorem cIsiT (e : X.K = K := by rfl) : CallR X (.builtin "isinstance") (rIsiT K) := e ▸ call_isiT
end
section
variable {K : PySem.W.Frag} {H : Hp} {Q : VK} {x v : V}
theorem g_ixQL {p : Addr} {xs : List V} {i : Int} (h : SqL K H p xs) (ha : atI xs i = some v) (k : Q v H) : rIx K (.ref p) (.int i) H Q := .inl (g_ixL h ha k)
theorem g_ixQT {p : Addr} {xs : List V} {i : Int} (h : SqT K H p xs) (ha : atI xs i = some v) (k : Q v H) : rIx K (.ref p) (.int i) H Q := .inr (.inl (g_ixT h ha k))
theorem g_isi {a b : String} {r : Bool} (ty : TyX K H x (.type a)) (e : kitB a b = some r) (k : Q (.bl r) H) : rIsi K [x, .ty b] H Q := ⟨x, .ty b, .type a, .type b, r, rfl, .ty b, ty, kit_ty e, k⟩
theorem g_isiT2 {a b c : String} {r s : Bool} {tp : Addr} (h : H tp = some (.tup [.ty b, .ty c])) (ty : TyX K H x (.type a)) (e : kitB a b = some r) (e2 : kitB a c = some s) (k : Q (.bl (r || s)) H) : rIsiT K [x, .ref tp] H Q := by
  refine ⟨x, tp, [.ty b, .ty c], .type a, [.type b, .type c], r || s, rfl, h, .cons (.ty b) (.cons (.ty c) .nil), ty, ?_, k⟩
  refine kitAny_cons (kit_ty e) (fun er => ?_) (fun er => by rw [er]; rfl)
  rw [er, Bool.false_or]
  exact kitAny_cons (kit_ty e2) (fun es => by rw [es]; exact kitAny_nil) (fun es => es)
theorem tyL {a : Addr} {xs : List V} (h : SqL K H a xs) : TyX K H (.ref a) (.type "list") := by
  rcases h with (h | ⟨o, h⟩) | ⟨o, its, n, h, c, _⟩
  · exact .base (.lst h)
  · exact .base (.frz h)
  · exact .kList h c
theorem tyT {a : Addr} {xs : List V} (h : SqT K H a xs) : TyX K H (.ref a) (.type "tuple") := by
  rcases h with (h | ⟨o, h⟩) | ⟨o, its, n, h, c, _⟩
  · exact .base (.tup h)
  · exact .fTuple h
  · exact .kTuple h c
theorem TyX.mx {t : Value} {H' : Hp} (m : Mx [] H H') (h : TyX K H x t) : TyX K H' x t := by
  cases h with
  | base h => cases h with
    | non => exact .base .non
    | bl b => exact .base (.bl b)
    | int i => exact .base (.int i)
    | str z => exact .base (.str z)
    | flt z => exact .base (.flt z)
    | lst e => exact .base (.lst (m.get0 e))
    | frz e => exact .base (.frz (m.get0 e))
    | tup e => exact .base (.tup (m.get0 e))
    | dK e => exact .base (.dK (m.get0 e))
    | dT e => exact .base (.dT (m.get0 e))
    | ins e cl ha hn htk hm => exact .base (.ins (m.get0 e) cl ha hn htk hm)
  | byt b => exact .byt b
  | set e => exact .set (m.get0 e)
  | kList e c => exact .kList e c
  | kTuple e c => exact .kTuple e c
  | kDict e c => exact .kDict e c
  | fTuple e => exact .fTuple (m.get0 e)
  | fDict e => exact .fDict (m.get0 e)
end
theorem kk_NoneType_tuple : kitB "NoneType" "tuple" = some false := by decide +kernel
theorem kk_NoneType_list : kitB "NoneType" "list" = some false := by decide +kernel
theorem kk_NoneType_str : kitB "NoneType" "str" = some false := by decide +kernel
theorem kk_NoneType_bool : kitB "NoneType" "bool" = some false := by decide +kernel
theorem kk_NoneType_int : kitB "NoneType" "int" = some false := by decide +kernel
theorem kk_bool_tuple : kitB "bool" "tuple" = some false := by decide +kernel
theorem kk_bool_list : kitB "bool" "list" = some false := by decide +kernel
theorem kk_bool_str : kitB "bool" "str" = some false := by decide +kernel
theorem kk_bool_bool : kitB "bool" "bool" = some true := by decide +kernel
theorem kk_bool_int : kitB "bool" "int" = some true := by decide +kernel
theorem kk_int_tuple : kitB "int" "tuple" = some false := by decide +kernel
theorem kk_int_list : kitB "int" "list" = some false := by decide +kernel
theorem kk_int_str : kitB "int" "str" = some false := by decide +kernel
theorem kk_int_bool : kitB "int" "bool" = some false := by decide +kernel
theorem kk_int_int : kitB "int" "int" = some true := by decide +kernel
theorem kk_str_tuple : kitB "str" "tuple" = some false := by decide +kernel
theorem kk_str_list : kitB "str" "list" = some false := by decide +kernel
theorem kk_str_str : kitB "str" "str" = some true := by decide +kernel
theorem kk_str_bool : kitB "str" "bool" = some false := by decide +kernel
theorem kk_str_int : kitB "str" "int" = some false := by decide +kernel
theorem kk_list_tuple : kitB "list" "tuple" = some false := by decide +kernel
theorem kk_list_list : kitB "list" "list" = some true := by decide +kernel
theorem kk_list_str : kitB "list" "str" = some false := by decide +kernel
theorem kk_list_bool : kitB "list" "bool" = some false := by decide +kernel
theorem kk_list_int : kitB "list" "int" = some false := by decide +kernel
theorem kk_tuple_tuple : kitB "tuple" "tuple" = some true := by decide +kernel
theorem kk_tuple_list : kitB "tuple" "list" = some false := by decide +kernel
theorem kk_tuple_str : kitB "tuple" "str" = some false := by decide +kernel
theorem kk_tuple_bool : kitB "tuple" "bool" = some false := by decide +kernel
theorem kk_tuple_int : kitB "tuple" "int" = some false := by decide +kernel
/-- the type's name of a datum -/
def tyOf : PyData → String
  | .none => "NoneType"
  | .bool _ => "bool"
  | .int _ => "int"
  | .str _ => "str"
  | .list _ => "list"
  | .tuple _ => "tuple"
  | .dict _ => "dict"
theorem Dp_ty {K : PySem.W.Frag} {H : Hp} {v : V} {d : PyData} (h : Dp K H v d) : TyX K H v (.type (tyOf d)) := by
  cases h with
  | non => exact .base .non
  | bl b => exact .base (.bl b)
  | int i => exact .base (.int i)
  | str z => exact .base (.str z)
  | lst h _ => exact tyL h
  | tup h _ => exact tyT h
end Fk

set_option maxRecDepth 100000
namespace Fk
open PySem PySem.Spec PyProof.Rows L2
theorem Room.units65 {k : Nat} {A : Around} (r : Room k A) : A.units + 65 < cLine := by have := r.un; omega
/-! ### isinstance of the error that a suite holds -/
def rIsX (K : PySem.W.Frag) (cls : Value) (d : Option Addr) (a : Addr) : List V → Hp → VK → Prop := fun xs H Q => ∃ D, cls = .ref D ∧ d = none ∧ ExcC K D ∧ rIsE K D a xs H Q
theorem cIsX {X : Cx} (K : PySem.W.Frag) {a : Addr} {oe : Obj} {cls : Value} {d : Option Addr} {pn : List (Addr × Obj)} (hz : Zc cls d oe) (hf : ∃ vs, oe.data = .fields vs) (e : X.K = K := by rfl) :
    CallR (X.suite a ((a, oe) :: pn)) (.builtin "isinstance") (rIsX K cls d a) := by
  intro pins s σ H xs us Q I r h
  obtain ⟨D, rfl, rfl, C, h⟩ := h
  subst e
  exact call_isE C hz hf pins s σ H xs us Q I r h
theorem g_isX {K : PySem.W.Frag} {D a C : Addr} {H : Hp} {Q : VK} {b : Bool} (E : ExcC K D) (h : PySem.W.kitOne K (.ref D) (.ref C) = some b) (k : Q (.bl b) H) : rIsX K (.ref D) none a [.ref a, .ref C] H Q :=
  ⟨D, rfl, rfl, E, .ref C, .ref C, b, rfl, fun _ r => r, h, k⟩
theorem g_isXt {K : PySem.W.Frag} {D a : Addr} {t : String} {H : Hp} {Q : VK} {b : Bool} (E : ExcC K D) (h : PySem.W.kitOne K (.ref D) (.type t) = some b) (k : Q (.bl b) H) : rIsX K (.ref D) none a [.ref a, .ty t] H Q :=
  ⟨D, rfl, rfl, E, .ty t, .type t, b, rfl, fun _ r => r, h, k⟩
/-! ### xs.count(y), flat items -/
def rCntF (K : PySem.W.Frag) : V → List V → Hp → VK → Prop := fun x xs H Q => ∃ (p : Addr) (ys : List V) (y : V), x = .ref p ∧ xs = [y] ∧ SqL K H p ys ∧ flatV y = true ∧ ys.all flatV = true ∧ Q (.int (ys.countP fun z => eqV z y : Nat)) H
theorem countP_eqU {y : V} : ∀ {ys : List V} {us : List Value}, Vals ys us → ys.all flatV = true → us.countP (eqU y) = ys.countP fun z => eqV z y
  | _, _, .nil, _ => rfl
  | _, _, .cons (a := a) r t, f => by
    rename_i b xs us
    have f2 : flatV a = true ∧ xs.all flatV = true := by simpa using f
    rw [List.countP_cons, List.countP_cons, countP_eqU t f2.2, eqU_of r f2.1]
theorem mtCountF {X : Cx} (K : PySem.W.Frag) (e : X.K = K := by rfl) : MtR X "list.count" (rCntF K) := by
  subst e
  intro pins s σ H x xs v us Q I rx rxs h
  obtain ⟨p, ys, y, rfl, rfl, hs, fy, fa, q⟩ := h
  cases rx
  obtain ⟨u, rfl, ru⟩ := rxs.one
  obtain ⟨its, rv, ⟨⟨cls, dd, data, sl⟩, n, ho, hc, hdn, hd⟩, hlen⟩ := I.list hs
  simp only at hc hd
  subst hc hd
  refine call_meets PySem.F.slot_list_count ⟨_, ho, rfl⟩ PySem.F.entry_list_count (PySem.F.args_list_count_2 _ _)
    (SeqAt.list_countAt p its.toArray n dd sl u (eqU y)) ⟨ho, fun z hz => mem_eqAt ru fy rv fa z (by simpa using hz), ?_⟩
  have ec : its.toArray.toList.countP (eqU y) = ys.countP fun z => eqV z y := countP_eqU rv fa
  refine ⟨.int (ys.countP (fun z => eqV z y) : Nat), H, I.tok _, ⟨s.toks, ?_⟩, q⟩
  show Value.int ((its.toArray.toList.countP (eqU y) : Nat) : Int) s.toks = Value.int ((ys.countP (fun z => eqV z y) : Nat) : Int) s.toks
  rw [ec]
theorem g_cntB {K : PySem.W.Frag} {H : Hp} {Q : VK} {p : Addr} {bs : List Bool} {n : Nat} (h : SqL K H p (bs.map V.bl)) (e : bs.count true = n) (k : Q (.int (n : Int)) H) : rCntF K (.ref p) [.bl true] H Q := by
  refine ⟨p, _, .bl true, rfl, rfl, h, rfl, by simp [flatV], ?_⟩
  have : (bs.map V.bl).countP (fun z => eqV z (.bl true)) = n := by
    rw [← e, List.count, List.countP_map]
    rfl
  rw [this]
  exact k
theorem mtIndexD {X : Cx} (K : PySem.W.Frag) (hu : X.A.units + 65 < cLine) (e : X.K = K := by rfl) : MtR X "list.index" (rIndexD K) := e ▸ mt_indexD hu
theorem bools_all {K : PySem.W.Frag} {H : Hp} : ∀ bs : List Bool, DpAll K H (bs.map V.bl) (bs.map PyData.bool)
  | [] => .nil
  | b :: r => .cons (.bl b) (bools_all r)
theorem lay_bools : ∀ ns : List Bool, PyData.canLayAll0 (ns.map PyData.bool) = true
  | [] => rfl
  | n :: r => by simp [PyData.canLayAll0, PyData.canLay0, lay_bools r]
theorem dep_bools : ∀ ns : List Bool, PyData.depthAll (ns.map PyData.bool) = 0
  | [] => rfl
  | n :: r => by simp [PyData.depthAll, PyData.depth, dep_bools r]
theorem g_ixB {K : PySem.W.Frag} {H : Hp} {Q : VK} {p : Addr} {bs : List Bool} {j : Nat} (h : SqL K H p (bs.map V.bl)) (hj : bs[j]? = some true) (hn : ∀ m, m < j → bs[m]? = some false) (k : Q (.int (j : Int)) H) : rIndexD K (.ref p) [.bl true] H Q := by
  refine ⟨p, .bl true, .bool true, bs.map PyData.bool, j, .bool true, rfl, rfl, .lst h (bools_all bs), .bl true, ?_, by decide, by rw [List.getElem?_map, hj]; rfl, rfl, fun m z hm hz => ?_, k⟩
  · simp [SeqAt.shaped, PyData.canLay0, lay_bools, PyData.depth, dep_bools]
  · rw [List.getElem?_map, hn m hm] at hz
    cases hz
    rfl
/-- the text's facts of a def that makes lambdas: its code object c, the table P of theirs -/
structure FcF (K : PySem.W.Frag) (mg : Str → Option Value) (x : Str) (st : Stmt) (ps : List Str) where
  a : Addr
  c : Addr
  P : Addr
  d : FuncData
  ex : ∃ (oc : Value) (od : Option Addr) (kV doc pm : Value) (an : Option Addr) (ct : Value) (osl : Array (Option Value)),
    d = PySem.W.fnOf x x (defArgs st) (defBody st) (defScope st) .none kV doc pm an (.ref c) ct ∧ K.lookup a = some ⟨oc, od, .func d, osl⟩ ∧ PySem.W.codeIn K (.ref c) x = true
  kp : PySem.W.keepIn K (.ref a) = true
  g : mg x = some (.ref a)
  b : Binds K d ps []
theorem FcF.ok {P : Program} {w : World} {K : PySem.W.Frag} {mg : Str → Option Value} {base : Heap} {x : Str} {st : Stmt} {ps N : List Str} {k : Nat} {sp : Sp} (F : FcF K mg x st ps) (S : FnScope N ps (defScope st)) (len : ∀ vs H Q E, sp vs H Q E → vs.length = ps.length)
    (hbody : ∀ (A : Around) (outer : List Env) (s : Shared) (H : Hp) (vs : List V) (Q : VK) (E : XK), Room k (A.deeper (envOfC x (defScope st) s.heap.objs.size F.a (.ref F.c))) → sp vs H Q E →
      ∃ t, PSs (cxOf (L2.CX P w) P w K mg base N x (defScope st) F.a (.ref F.c) A outer s H E) (defBody st) t ∧ t { nx := fun _ H' => Q .non H', rt := Q } (start N vs) H) : FnOk P w K mg base (L2.CX P w) (k + 1) F.a F.d ps sp := by
  obtain ⟨oc, od, kV, doc, pm, an, ct, osl, hd, lk, hcd⟩ := F.ex
  rw [hd] at lk ⊢
  exact fn_of lk hcd S len hbody
/-- what the text says of an error class over FE -/
structure ExI (K : PySem.W.Frag) (D FE : Addr) : Prop where
  c : ExcC K D
  sub : PySem.W.subIn K (.ref D) (.ref FE) = some true
  ve : PySem.W.kitOne K (.ref D) (.type "ValueError") = some true
theorem ExI.exm {K : PySem.W.Frag} {D FE : Addr} {mg : Str → Option Value} {x : Str} (E : ExI K D FE) (F : ExF K mg x FE) (hd : PySem.W.hasDictIn K FE = true) : PySem.W.exmOne K (.ref D) (.ref FE) = some true :=
  PySem.W.exm_ref F.b hd F.t E.sub
end Fk

set_option maxRecDepth 100000
namespace Fk
open PySem PySem.Spec PyProof.Rows L2
/-! ### the end: what the text's top leaves, fact by fact -/
section
variable {K : PySem.W.Frag} {h : Heap} {mg : Str → Option Value} {Goal : Prop}
theorem with_fn (X : K.In h) (G : h.Ns mainGlobals mg) (x : Str) (st : Stmt) (ps : List Str) {f : Addr} {od an : Option Addr} {osl : Array (Option Value)} {oc kV doc pm cdv ct : Value}
    (a : PySem.W.nsIn K mainGlobals x = some (some (.ref f))) (l : K.lookup f = some ⟨oc, od, .func (PySem.W.fnOf x x (defArgs st) (defBody st) (defScope st) .none kV doc pm an cdv ct), osl⟩) (c : PySem.W.codeIn K cdv x = true) (k : PySem.W.keepIn K (.ref f) = true)
    (b : ∀ (kV doc pm : Value) (an : Option Addr) (cdv ct : Value) (us : List Value), us.length = ps.length → bindArgs (PySem.W.fnOf x x (defArgs st) (defBody st) (defScope st) .none kV doc pm an cdv ct) ⟨us, []⟩ = pure (ps.zip us)) (g : FnF K mg x st ps → Goal) : Goal :=
  g ⟨f, _, fun_mk l c k, PySem.W.mg_of X G a, (fun_mk l c k).binds b⟩
theorem with_fc (X : K.In h) (G : h.Ns mainGlobals mg) (x : Str) (st : Stmt) (ps : List Str) {f c P : Addr} {od an : Option Addr} {osl : Array (Option Value)} {oc kV doc pm ct : Value}
    (a : PySem.W.nsIn K mainGlobals x = some (some (.ref f))) (l : K.lookup f = some ⟨oc, od, .func (PySem.W.fnOf x x (defArgs st) (defBody st) (defScope st) .none kV doc pm an (.ref c) ct), osl⟩) (ci : PySem.W.codeIn K (.ref c) x = true) (k : PySem.W.keepIn K (.ref f) = true)
    (b : ∀ (kV doc pm : Value) (an : Option Addr) (cdv ct : Value) (us : List Value), us.length = ps.length → bindArgs (PySem.W.fnOf x x (defArgs st) (defBody st) (defScope st) .none kV doc pm an cdv ct) ⟨us, []⟩ = pure (ps.zip us))
    (hd : PySem.W.codeHdIn K c P = true) (hT : h.get? P = some { cls := .none, data := .fields #[] }) (nP : K.lookup P = none)
    (g : ∀ F : FcF K mg x st ps, h.get? F.P = some { cls := .none, data := .fields #[] } → K.lookup F.P = none → PySem.W.CodeHd h F.c F.P → (∀ (s : Shared) (us : List Value), us.length = ps.length → BindsTo s F.d ⟨us, []⟩ (ps.zip us)) → Goal) : Goal :=
  g ⟨f, c, P, _, ⟨oc, od, kV, doc, pm, an, ct, osl, rfl, l, ci⟩, k, PySem.W.mg_of X G a, (fun_mk l ci k).binds b⟩ hT nP (PySem.W.codeHd_of_K X hd) fun s us hl => .of_eq (b _ _ _ _ _ _ us hl)
theorem with_me {C : Addr} (_ : Cls K C) (m qual : Str) (st : Stmt) (ps : List Str) {f : Addr} {od an : Option Addr} {osl : Array (Option Value)} {oc kV doc pm cdv ct : Value}
    (a : PySem.W.findIn K (.ref C) m = some (some (.ref f))) (i : PySem.W.isFn K (.ref f) = true) (l : K.lookup f = some ⟨oc, od, .func (PySem.W.fnOf m qual (defArgs st) (defBody st) (defScope st) .none kV doc pm an cdv ct), osl⟩) (c : PySem.W.codeIn K cdv qual = true) (k : PySem.W.keepIn K (.ref f) = true)
    (b : ∀ (kV doc pm : Value) (an : Option Addr) (cdv ct : Value) (us : List Value), us.length = ps.length → bindArgs (PySem.W.fnOf m qual (defArgs st) (defBody st) (defScope st) .none kV doc pm an cdv ct) ⟨us, []⟩ = pure (ps.zip us)) (g : MeF K C m qual st ps → Goal) : Goal :=
  g ⟨f, _, fun_mk l c k, ⟨a, i, k⟩, (fun_mk l c k).binds b⟩
theorem with_md {C : Addr} (_ : Cls K C) (m qual : Str) (st : Stmt) (ps : List Str) (n : Nat) {f T0 : Addr} {od od0 an : Option Addr} {osl osl0 : Array (Option Value)} {oc oc0 kV doc pm cdv ct : Value} {n0 : Nat}
    (a : PySem.W.findIn K (.ref C) m = some (some (.ref f))) (i : PySem.W.isFn K (.ref f) = true) (l : K.lookup f = some ⟨oc, od, .func (PySem.W.fnOf m qual (defArgs st) (defBody st) (defScope st) (.ref T0) kV doc pm an cdv ct), osl⟩) (c : PySem.W.codeIn K cdv qual = true) (k : PySem.W.keepIn K (.ref f) = true)
    (l0 : K.lookup T0 = some ⟨oc0, od0, .seq #[.none] n0, osl0⟩) (hn : n + 1 = ps.length)
    (b : ∀ (T : Addr) (kV doc pm : Value) (an : Option Addr) (cdv ct : Value) (us its : List Value), us.length = ps.length → its.length = 1 →
      ∃ k, bindArgs (PySem.W.fnOf m qual (defArgs st) (defBody st) (defScope st) (.ref T) kV doc pm an cdv ct) ⟨us, []⟩ = seqItems? (.ref T) >>= k ∧ k (some its.toArray) = pure (ps.zip (us ++ its.drop 1)))
    (b1 : ∀ (T : Addr) (kV doc pm : Value) (an : Option Addr) (cdv ct : Value) (us its : List Value), us.length = n → its.length = 1 →
      ∃ k, bindArgs (PySem.W.fnOf m qual (defArgs st) (defBody st) (defScope st) (.ref T) kV doc pm an cdv ct) ⟨us, []⟩ = seqItems? (.ref T) >>= k ∧ k (some its.toArray) = pure (ps.zip (us ++ its.drop 0)))
    (g : MdF K C m qual st ps → Goal) : Goal := by
  have F : FunD K m qual (defArgs st) (defBody st) (defScope st) [.non] [] f (PySem.W.fnOf m qual (defArgs st) (defBody st) (defScope st) (.ref T0) kV doc pm an cdv ct) :=
    ⟨⟨oc, od, _, kV, doc, pm, an, cdv, ct, osl, rfl, l, c, .inr ⟨by simp, T0, _, [.none], n0, rfl, l0, rfl, .cons rfl .nil⟩, .inl rfl⟩, k⟩
  obtain ⟨ds, v, e⟩ := F.binds1 (ps := ps) ps.length 1 (by simp) (by simp) b
  obtain ⟨ds1, v1, e1⟩ := F.binds1 (ps := ps) n 0 (by simp) (by simpa using hn) b1
  cases v
  exact g ⟨f, _, F, ⟨a, i, k⟩, e, ds1, v1, e1⟩
theorem with_ex (X : K.In h) (G : h.Ns mainGlobals mg) (x : Str) {C : Addr} (a : PySem.W.nsIn K mainGlobals x = some (some (.ref C))) (e : PySem.W.excIn K C [.type "ValueError", .type "Exception", .type "BaseException", .type "object"] "ValueError.__new__" = true)
    (k : PySem.W.keepIn K (.ref C) = true) (b : PySem.W.subIn K (.ref C) (.type "BaseException") = some true) (t : PySem.W.typeIn K (.ref C) = some (.type "type")) (g : ExF K mg x C → Goal) : Goal :=
  g ⟨PySem.W.mg_of X G a, e, k, b, t⟩
theorem with_ei {D FE : Addr} {x y : Str} (_ : ExF K mg x D) (_ : ExF K mg y FE) (h1 : PySem.W.findIn K (.ref D) "__getattribute__" = some (some (.builtin "BaseException.__getattribute__"))) (h2 : PySem.W.findIn K (.ref D) "__getattr__" = some none) (h3 : PySem.W.subIn K (.ref D) (.type "BaseException") = some true) (h4 : PySem.W.hasDictIn K D = true)
    (h5 : PySem.W.findIn K (.ref D) "__class__" = some (some (.builtin "object.__class__"))) (h6 : PySem.W.specialIn K (.builtin "object.__class__") "__get__" = some (some (.builtin "getset_descriptor.__get__"))) (h7 : PySem.W.takesIn K (.builtin "object.__class__") = some true) (h8 : PySem.W.mroIn K D (.type "object") = some true)
    (h9 : PySem.W.subIn K (.ref D) (.ref FE) = some true) (h10 : PySem.W.kitOne K (.ref D) (.type "ValueError") = some true) (g : ExI K D FE → Goal) : Goal := g ⟨⟨h1, h2, h3, h4, h5, h6, h7, h8⟩, h9, h10⟩
theorem with_cl (X : K.In h) (G : h.Ns mainGlobals mg) (x : Str) {C : Addr} (a : PySem.W.nsIn K mainGlobals x = some (some (.ref C))) (h1 : PySem.W.plainGet K C Str.empty = true) (h2 : PySem.W.hasDictIn K C = true) (h3 : PySem.W.plainOver K C = true)
    (h4 : PySem.W.findIn K (.ref C) "__setattr__" = some (some (.builtin "object.__setattr__"))) (h5 : PySem.W.makesIn K C = true) (h6 : PySem.W.keepIn K (.ref C) = true) (g : Cls K C → mg x = some (.ref C) → PySem.W.makesIn K C = true → PySem.W.keepIn K (.ref C) = true → Goal) : Goal :=
  g ⟨h1, h2, h3, h4⟩ (PySem.W.mg_of X G a) h5 h6
theorem with_na {C : Addr} (_ : Cls K C) (f : Str) (a : PySem.W.findIn K (.ref C) f = some none) (g : NoAttr K C f → Goal) : Goal := g a
theorem with_bl (X : K.In h) (G : h.Ns mainGlobals mg) (x : Str) (a : PySem.W.nsIn K mainGlobals x = some none) (g : mg x = none → Goal) : Goal := g (PySem.W.mg_none_of X G a)
theorem with_co (X : K.In h) (G : h.Ns mainGlobals mg) (x : Str) (v : Int) {t : Tok} (a : PySem.W.nsIn K mainGlobals x = some (some (.int v t))) (g : (∃ t, mg x = some (.int v t)) → Goal) : Goal := g ⟨t, PySem.W.mg_of X G a⟩
theorem with_eq {p : Prop} (a : p) (g : p → Goal) : Goal := g a
end
end Fk

set_option maxRecDepth 100000
namespace Fk
open PySem PySem.Spec PyProof.Rows L2
/-! ### the end, where several defs make lambdas -/
theorem with_fcE {K : PySem.W.Frag} {h : Heap} {mg : Str → Option Value} {Goal : Prop} (X : K.In h) (G : h.Ns mainGlobals mg) (x : Str) (st : Stmt) (ps : List Str) {f c P : Addr} {od an : Option Addr} {osl : Array (Option Value)} {oc kV doc pm ct : Value}
    (a : PySem.W.nsIn K mainGlobals x = some (some (.ref f))) (l : K.lookup f = some ⟨oc, od, .func (PySem.W.fnOf x x (defArgs st) (defBody st) (defScope st) .none kV doc pm an (.ref c) ct), osl⟩) (ci : PySem.W.codeIn K (.ref c) x = true) (k : PySem.W.keepIn K (.ref f) = true)
    (b : ∀ (kV doc pm : Value) (an : Option Addr) (cdv ct : Value) (us : List Value), us.length = ps.length → bindArgs (PySem.W.fnOf x x (defArgs st) (defBody st) (defScope st) .none kV doc pm an cdv ct) ⟨us, []⟩ = pure (ps.zip us))
    (hd : PySem.W.codeHdIn K c P = true) (hT : h.get? P = some { cls := .none, data := .fields #[] }) (nP : K.lookup P = none)
    (g : ∀ F : FcF K mg x st ps, F.P = P → h.get? F.P = some { cls := .none, data := .fields #[] } → K.lookup F.P = none → PySem.W.CodeHd h F.c F.P → (∀ (s : Shared) (us : List Value), us.length = ps.length → BindsTo s F.d ⟨us, []⟩ (ps.zip us)) → Goal) : Goal :=
  g ⟨f, c, P, _, ⟨oc, od, kV, doc, pm, an, ct, osl, rfl, l, ci⟩, k, PySem.W.mg_of X G a, (fun_mk l ci k).binds b⟩ rfl hT nP (PySem.W.codeHd_of_K X hd) fun s us hl => .of_eq (b _ _ _ _ _ _ us hl)
theorem with_fnB {K : PySem.W.Frag} {h : Heap} {mg : Str → Option Value} {Goal : Prop} (X : K.In h) (G : h.Ns mainGlobals mg) (x : Str) (st : Stmt) (ps : List Str) {f : Addr} {od an : Option Addr} {osl : Array (Option Value)} {oc kV doc pm cdv ct : Value}
    (a : PySem.W.nsIn K mainGlobals x = some (some (.ref f))) (l : K.lookup f = some ⟨oc, od, .func (PySem.W.fnOf x x (defArgs st) (defBody st) (defScope st) .none kV doc pm an cdv ct), osl⟩) (c : PySem.W.codeIn K cdv x = true) (k : PySem.W.keepIn K (.ref f) = true)
    (b : ∀ (kV doc pm : Value) (an : Option Addr) (cdv ct : Value) (us : List Value), us.length = ps.length → bindArgs (PySem.W.fnOf x x (defArgs st) (defBody st) (defScope st) .none kV doc pm an cdv ct) ⟨us, []⟩ = pure (ps.zip us))
    (g : ∀ F : FnF K mg x st ps, (∀ (s : Shared) (us : List Value), us.length = ps.length → BindsTo s F.d ⟨us, []⟩ (ps.zip us)) → Goal) : Goal :=
  g ⟨f, _, fun_mk l c k, PySem.W.mg_of X G a, (fun_mk l c k).binds b⟩ fun s us hl => .of_eq (b _ _ _ _ _ _ us hl)
theorem FcF.cl {P : Program} {w : World} {K : PySem.W.Frag} {mg : Str → Option Value} {base : Heap} {x : Str} {st : Stmt} {ps : List Str} {k : Nat} {sp : Sp} (F : FcF K mg x st ps) (h : FnOk P w K mg base (L2.CX P w) k F.a F.d ps sp) : Cl P w K mg base k x sp [] :=
  ⟨F.a, F.d, ps, [], h, F.g, F.kp, F.b, .nil⟩
/-! ### a dict's copy, tuples joined -/
def rDictD : List V → Hp → VK → Prop := fun xs H Q => ∃ (a : Addr) (kvs : List (Key × V)), xs = [.ref a] ∧ Rd H a (.dK kvs) ∧ ∀ p, H p = none → Q (.ref p) (upd H p (.dK kvs))
theorem cDictD {X : Cx} : CallR X (.type "dict") rDictD := call_dictD
theorem g_dictD {a : Addr} {kvs : List (Key × V)} {H : Hp} {Q : VK} (h : H a = some (.dK kvs)) (k : ∀ p H', H p = none → Mx [] H H' → H' p = some (.dK kvs) → Q (.ref p) H') : rDictD [.ref a] H Q := ⟨a, kvs, rfl, .inl h, fun p hp => k p _ hp (.new hp) upd_same⟩
theorem g_joinT {K : PySem.W.Frag} {x y : Addr} {xs ys : List V} {H : Hp} {Q : VK} (h1 : SqT K H x xs) (h2 : SqT K H y ys) (n1 : xs ≠ []) (n2 : ys ≠ []) (hl : xs.length + ys.length ≤ 100000) (k : ∀ p H', H p = none → Mx [] H H' → H' p = some (.tup (xs ++ ys)) → Q (.ref p) H') : rCatT K (.ref x) (.ref y) H Q :=
  ⟨x, y, xs, ys, rfl, rfl, h1, h2, n1, lineS hl, fun z => absurd z n2, fun _ p hp => k p _ hp (.new hp) upd_same⟩
end Fk

set_option maxRecDepth 100000
namespace Fk
open PySem PySem.Spec PyProof.Rows L2
/-! ### the text by places -/
def top (i : Nat) : Stmt := PySem.Challenge.pw_frankmeter_k06_whole_wholly_or_not_at_al.main.body.getD i (.Pass ⟨0, 0, 0, 0⟩)
abbrev s_at_first : Stmt := top 21
abbrev N_at_first : List Str := []
theorem sc_at_first : FnScope N_at_first [] (defScope s_at_first) := ⟨rfl, rfl, rfl, by decide +kernel, rfl, by decide +kernel, by decide +kernel⟩
abbrev s_standing : Stmt := top 22
abbrev N_standing : List Str := ["cells", "whole", "bank"]
theorem sc_standing : FnScope N_standing ["cells"] (defScope s_standing) := ⟨rfl, rfl, rfl, by decide +kernel, rfl, by decide +kernel, by decide +kernel⟩
abbrev s_bank_of : Stmt := top 23
abbrev N_bank_of : List Str := ["cells", "bank"]
theorem sc_bank_of : FnScope N_bank_of ["cells"] (defScope s_bank_of) := ⟨rfl, rfl, rfl, by decide +kernel, rfl, by decide +kernel, by decide +kernel⟩
abbrev s_steps_to : Stmt := top 24
abbrev N_steps_to : List Str := ["cells", "changes", "begin", "bank", "place", "number", "found"]
theorem sc_steps_to : FnScope N_steps_to ["cells", "changes"] (defScope s_steps_to) := ⟨rfl, rfl, rfl, by decide +kernel, rfl, by decide +kernel, by decide +kernel⟩
abbrev s_sign_of : Stmt := top 30
abbrev N_sign_of : List Str := ["key", "meter", "count", "amount", "kind"]
theorem sc_sign_of : FnScope N_sign_of ["key", "meter", "count", "amount", "kind"] (defScope s_sign_of) := ⟨rfl, rfl, rfl, by decide +kernel, rfl, by decide +kernel, by decide +kernel⟩
abbrev s_code_of : Stmt := top 31
abbrev N_code_of : List Str := ["key", "meter", "count", "amount", "kind"]
theorem sc_code_of : FnScope N_code_of ["key", "meter", "count", "amount", "kind"] (defScope s_code_of) := ⟨rfl, rfl, rfl, by decide +kernel, rfl, by decide +kernel, by decide +kernel⟩
abbrev s_is_amount : Stmt := top 32
abbrev N_is_amount : List Str := ["amount"]
theorem sc_is_amount : FnScope N_is_amount ["amount"] (defScope s_is_amount) := ⟨rfl, rfl, rfl, by decide +kernel, rfl, by decide +kernel, by decide +kernel⟩
abbrev s_need_amount : Stmt := top 33
abbrev N_need_amount : List Str := ["amount"]
theorem sc_need_amount : FnScope N_need_amount ["amount"] (defScope s_need_amount) := ⟨rfl, rfl, rfl, by decide +kernel, rfl, by decide +kernel, by decide +kernel⟩
abbrev s_is_good : Stmt := top 34
abbrev N_is_good : List Str := ["key", "code", "meter", "count", "kind"]
theorem sc_is_good : FnScope N_is_good ["key", "code", "meter", "count", "kind"] (defScope s_is_good) := ⟨rfl, rfl, rfl, by decide +kernel, rfl, by decide +kernel, by decide +kernel⟩
abbrev s_need_key : Stmt := top 38
abbrev N_need_key : List Str := ["key"]
theorem sc_need_key : FnScope N_need_key ["key"] (defScope s_need_key) := ⟨rfl, rfl, rfl, by decide +kernel, rfl, by decide +kernel, by decide +kernel⟩
abbrev s_need_number : Stmt := top 39
abbrev N_need_number : List Str := ["number"]
theorem sc_need_number : FnScope N_need_number ["number"] (defScope s_need_number) := ⟨rfl, rfl, rfl, by decide +kernel, rfl, by decide +kernel, by decide +kernel⟩
abbrev s_Meter___init__ : Stmt := inClass (top 40) 0
abbrev N_Meter___init__ : List Str := ["self", "number", "key"]
theorem sc_Meter___init__ : FnScope N_Meter___init__ ["self", "number", "key"] (defScope s_Meter___init__) := ⟨rfl, rfl, rfl, by decide +kernel, rfl, by decide +kernel, by decide +kernel⟩
abbrev s_Meter_cells : Stmt := inClass (top 40) 2
abbrev N_Meter_cells : List Str := ["self"]
theorem sc_Meter_cells : FnScope N_Meter_cells ["self"] (defScope s_Meter_cells) := ⟨rfl, rfl, rfl, by decide +kernel, rfl, by decide +kernel, by decide +kernel⟩
abbrev s_Meter_stamps : Stmt := inClass (top 40) 3
abbrev N_Meter_stamps : List Str := ["self"]
theorem sc_Meter_stamps : FnScope N_Meter_stamps ["self"] (defScope s_Meter_stamps) := ⟨rfl, rfl, rfl, by decide +kernel, rfl, by decide +kernel, by decide +kernel⟩
abbrev s_Meter_is_up : Stmt := inClass (top 40) 4
abbrev N_Meter_is_up : List Str := ["self"]
theorem sc_Meter_is_up : FnScope N_Meter_is_up ["self"] (defScope s_Meter_is_up) := ⟨rfl, rfl, rfl, by decide +kernel, rfl, by decide +kernel, by decide +kernel⟩
abbrev s_Meter_sums : Stmt := inClass (top 40) 5
abbrev N_Meter_sums : List Str := ["self", "bank"]
theorem sc_Meter_sums : FnScope N_Meter_sums ["self"] (defScope s_Meter_sums) := ⟨rfl, rfl, rfl, by decide +kernel, rfl, by decide +kernel, by decide +kernel⟩
abbrev s_Meter_need_up : Stmt := inClass (top 40) 6
abbrev N_Meter_need_up : List Str := ["self"]
theorem sc_Meter_need_up : FnScope N_Meter_need_up ["self"] (defScope s_Meter_need_up) := ⟨rfl, rfl, rfl, by decide +kernel, rfl, by decide +kernel, by decide +kernel⟩
abbrev s_Meter_write : Stmt := inClass (top 40) 7
abbrev N_Meter_write : List Str := ["self", "changes", "cut", "cell", "number"]
theorem sc_Meter_write : FnScope N_Meter_write ["self", "changes", "cut"] (defScope s_Meter_write) := ⟨rfl, rfl, rfl, by decide +kernel, rfl, by decide +kernel, by decide +kernel⟩
abbrev s_Meter_owed : Stmt := inClass (top 40) 8
abbrev N_Meter_owed : List Str := ["self", "bank", "last"]
theorem sc_Meter_owed : FnScope N_Meter_owed ["self"] (defScope s_Meter_owed) := ⟨rfl, rfl, rfl, by decide +kernel, rfl, by decide +kernel, by decide +kernel⟩
abbrev s_Meter_print_owed : Stmt := inClass (top 40) 9
abbrev N_Meter_print_owed : List Str := ["self", "cut", "found"]
theorem sc_Meter_print_owed : FnScope N_Meter_print_owed ["self", "cut"] (defScope s_Meter_print_owed) := ⟨rfl, rfl, rfl, by decide +kernel, rfl, by decide +kernel, by decide +kernel⟩
abbrev s_Meter_stamp : Stmt := inClass (top 40) 10
abbrev N_Meter_stamp : List Str := ["self", "amount", "cut", "bank", "number", "changes", "left"]
theorem sc_Meter_stamp : FnScope N_Meter_stamp ["self", "amount", "cut"] (defScope s_Meter_stamp) := ⟨rfl, rfl, rfl, by decide +kernel, rfl, by decide +kernel, by decide +kernel⟩
abbrev s_Meter_top_up : Stmt := inClass (top 40) 11
abbrev N_Meter_top_up : List Str := ["self", "code", "cut", "bank", "changes"]
theorem sc_Meter_top_up : FnScope N_Meter_top_up ["self", "code", "cut"] (defScope s_Meter_top_up) := ⟨rfl, rfl, rfl, by decide +kernel, rfl, by decide +kernel, by decide +kernel⟩
abbrev s_Meter_give_back : Stmt := inClass (top 40) 12
abbrev N_Meter_give_back : List Str := ["self", "amount", "cut", "bank", "changes"]
theorem sc_Meter_give_back : FnScope N_Meter_give_back ["self", "amount", "cut"] (defScope s_Meter_give_back) := ⟨rfl, rfl, rfl, by decide +kernel, rfl, by decide +kernel, by decide +kernel⟩
abbrev s_Meter_last_back : Stmt := inClass (top 40) 13
abbrev N_Meter_last_back : List Str := ["self", "bank"]
theorem sc_Meter_last_back : FnScope N_Meter_last_back ["self"] (defScope s_Meter_last_back) := ⟨rfl, rfl, rfl, by decide +kernel, rfl, by decide +kernel, by decide +kernel⟩
abbrev s_Meter_come_up : Stmt := inClass (top 40) 14
abbrev N_Meter_come_up : List Str := ["self", "cut"]
theorem sc_Meter_come_up : FnScope N_Meter_come_up ["self", "cut"] (defScope s_Meter_come_up) := ⟨rfl, rfl, rfl, by decide +kernel, rfl, by decide +kernel, by decide +kernel⟩
abbrev s_recovered : Stmt := top 41
abbrev N_recovered : List Str := ["number", "key", "cells", "stamps", "found"]
theorem sc_recovered : FnScope N_recovered ["number", "key", "cells", "stamps"] (defScope s_recovered) := ⟨rfl, rfl, rfl, by decide +kernel, rfl, by decide +kernel, by decide +kernel⟩
abbrev s__law_start : Stmt := top 43
abbrev N__law_start : List Str := ["_law_script", "_law_mixed", "_law_cell"]
theorem sc__law_start : FnScope N__law_start ["_law_script"] (defScope s__law_start) := ⟨rfl, rfl, rfl, by decide +kernel, rfl, by decide +kernel, by decide +kernel⟩
abbrev s__law_drawn : Stmt := top 44
abbrev N__law_drawn : List Str := ["_law_state", "_law_many", "_law_found", "_law_cell"]
theorem sc__law_drawn : FnScope N__law_drawn ["_law_state", "_law_many"] (defScope s__law_drawn) := ⟨rfl, rfl, rfl, by decide +kernel, rfl, by decide +kernel, by decide +kernel⟩
abbrev s__law_kind : Stmt := top 45
abbrev N__law_kind : List Str := ["_law_work", "e", "_law_kinds", "_law_words"]
theorem sc__law_kind : FnScope N__law_kind ["_law_work"] (defScope s__law_kind) := ⟨rfl, rfl, rfl, by decide +kernel, rfl, by decide +kernel, by decide +kernel⟩
abbrev s__law_amount : Stmt := top 46
abbrev N__law_amount : List Str := ["_law_state"]
theorem sc__law_amount : FnScope N__law_amount ["_law_state"] (defScope s__law_amount) := ⟨rfl, rfl, rfl, by decide +kernel, rfl, by decide +kernel, by decide +kernel⟩
abbrev s__law_sign : Stmt := top 47
abbrev N__law_sign : List Str := ["_law_key", "_law_meter_here", "_law_count", "_law_amount_here", "_law_kind_here", "_law_whole"]
theorem sc__law_sign : FnScope N__law_sign ["_law_key", "_law_meter_here", "_law_count", "_law_amount_here", "_law_kind_here"] (defScope s__law_sign) := ⟨rfl, rfl, rfl, by decide +kernel, rfl, by decide +kernel, by decide +kernel⟩
abbrev s__law_code : Stmt := top 48
abbrev N__law_code : List Str := ["_law_key", "_law_meter_here", "_law_count", "_law_amount_here", "_law_kind_here"]
theorem sc__law_code : FnScope N__law_code ["_law_key", "_law_meter_here", "_law_count", "_law_amount_here", "_law_kind_here"] (defScope s__law_code) := ⟨rfl, rfl, rfl, by decide +kernel, rfl, by decide +kernel, by decide +kernel⟩
abbrev s__law_meter : Stmt := top 49
abbrev N__law_meter : List Str := ["_law_number", "_law_key"]
theorem sc__law_meter : FnScope N__law_meter ["_law_number", "_law_key"] (defScope s__law_meter) := ⟨rfl, rfl, rfl, by decide +kernel, rfl, by decide +kernel, by decide +kernel⟩
abbrev s__law_bank : Stmt := top 50
abbrev N__law_bank : List Str := ["_law_cells", "_law_one", "_law_other"]
theorem sc__law_bank : FnScope N__law_bank ["_law_cells"] (defScope s__law_bank) := ⟨rfl, rfl, rfl, by decide +kernel, rfl, by decide +kernel, by decide +kernel⟩
abbrev s__law_steps : Stmt := top 51
abbrev N__law_steps : List Str := ["_law_m", "_law_news", "_law_bank_here", "_law_begin", "_law_place", "_law_k"]
theorem sc__law_steps : FnScope N__law_steps ["_law_m", "_law_news"] (defScope s__law_steps) := ⟨rfl, rfl, rfl, by decide +kernel, rfl, by decide +kernel, by decide +kernel⟩
abbrev s__law_owed : Stmt := top 52
abbrev N__law_owed : List Str := ["_law_m", "_law_bank_here", "_law_last"]
theorem sc__law_owed : FnScope N__law_owed ["_law_m"] (defScope s__law_owed) := ⟨rfl, rfl, rfl, by decide +kernel, rfl, by decide +kernel, by decide +kernel⟩
abbrev s__law_run : Stmt := top 53
abbrev N__law_run : List Str := ["_law_m", "_law_news", "_law_cut_here", "_law_steps_here", "_law_done"]
theorem sc__law_run : FnScope N__law_run ["_law_m", "_law_news", "_law_cut_here"] (defScope s__law_run) := ⟨rfl, rfl, rfl, by decide +kernel, rfl, by decide +kernel, by decide +kernel⟩
abbrev s__law_word : Stmt := top 54
abbrev N__law_word : List Str := ["_law_m", "_law_deed_here", "_law_bank_here", "_law_meter_here", "_law_count", "_law_amount_here", "_law_sign_here", "_law_due_here"]
theorem sc__law_word : FnScope N__law_word ["_law_m", "_law_deed_here"] (defScope s__law_word) := ⟨rfl, rfl, rfl, by decide +kernel, rfl, by decide +kernel, by decide +kernel⟩
abbrev s__law_due : Stmt := top 55
abbrev N__law_due : List Str := ["_law_m", "_law_deed_here", "_law_cut_here", "_law_owed_here", "_law_word_here", "_law_bank_here", "_law_told_here", "_law_news"]
theorem sc__law_due : FnScope N__law_due ["_law_m", "_law_deed_here", "_law_cut_here"] (defScope s__law_due) := ⟨rfl, rfl, rfl, by decide +kernel, rfl, by decide +kernel, by decide +kernel⟩
abbrev s__law_does : Stmt := top 56
abbrev N__law_does : List Str := ["_law_meter_here", "_law_deed_here", "_law_cut_here"]
theorem sc__law_does : FnScope N__law_does ["_law_meter_here", "_law_deed_here", "_law_cut_here"] (defScope s__law_does) := ⟨rfl, rfl, rfl, by decide +kernel, rfl, by decide +kernel, by decide +kernel⟩
abbrev s__law_deed : Stmt := top 57
abbrev N__law_deed : List Str := ["_law_state", "_law_m", "_law_bank_here", "_law_way", "_law_amount_here"]
theorem sc__law_deed : FnScope N__law_deed ["_law_state", "_law_m"] (defScope s__law_deed) := ⟨rfl, rfl, rfl, by decide +kernel, rfl, by decide +kernel, by decide +kernel⟩
abbrev s__law_cut : Stmt := top 58
abbrev N__law_cut : List Str := ["_law_state"]
theorem sc__law_cut : FnScope N__law_cut ["_law_state"] (defScope s__law_cut) := ⟨rfl, rfl, rfl, by decide +kernel, rfl, by decide +kernel, by decide +kernel⟩
abbrev s__law_fresh : Stmt := top 59
abbrev N__law_fresh : List Str := ["_law_state", "_law_number", "_law_key", "_law_meter_here", "_law_m", "_law_codes", "_law_left", "_law_elder"]
theorem sc__law_fresh : FnScope N__law_fresh ["_law_state"] (defScope s__law_fresh) := ⟨rfl, rfl, rfl, by decide +kernel, rfl, by decide +kernel, by decide +kernel⟩
abbrev s__law_step : Stmt := top 60
abbrev N__law_step : List Str := ["_law_state", "_law_meter_here", "_law_m", "_law_deed_here", "_law_cut_here"]
theorem sc__law_step : FnScope N__law_step ["_law_state", "_law_meter_here", "_law_m"] (defScope s__law_step) := ⟨rfl, rfl, rfl, by decide +kernel, rfl, by decide +kernel, by decide +kernel⟩
abbrev s__law_like : Stmt := top 61
abbrev N__law_like : List Str := ["_law_meter_here", "_law_m", "_law_other"]
theorem sc__law_like : FnScope N__law_like ["_law_meter_here", "_law_m"] (defScope s__law_like) := ⟨rfl, rfl, rfl, by decide +kernel, rfl, by decide +kernel, by decide +kernel⟩
abbrev s__law_told : Stmt := top 62
abbrev N__law_told : List Str := ["_law_meter_here", "_law_cells", "_law_begin"]
theorem sc__law_told : FnScope N__law_told ["_law_meter_here"] (defScope s__law_told) := ⟨rfl, rfl, rfl, by decide +kernel, rfl, by decide +kernel, by decide +kernel⟩
abbrev s__law_after : Stmt := top 63
abbrev N__law_after : List Str := ["_law_state", "_law_meter_here", "_law_m", "_law_deed_here", "_law_cut_here", "_law_other", "_law_turn"]
theorem sc__law_after : FnScope N__law_after ["_law_state", "_law_meter_here", "_law_m", "_law_deed_here", "_law_cut_here"] (defScope s__law_after) := ⟨rfl, rfl, rfl, by decide +kernel, rfl, by decide +kernel, by decide +kernel⟩
abbrev s_law : Stmt := top 64
abbrev N_law : List Str := ["_law_script", "_law_state", "_law_meter_here", "_law_m", "_law_turn", "_law_deed_here", "_law_before", "_law_other", "_law_behind", "_law_cut_here", "_law_bank_here", "_law_code_here"]
theorem sc_law : FnScope N_law ["_law_script"] (defScope s_law) := ⟨rfl, rfl, rfl, by decide +kernel, rfl, by decide +kernel, by decide +kernel⟩
/-! ### what the text's top leaves -/
structure Tx (K : PySem.W.Frag) (mg : Str → Option Value) where
  g_WIDE : ∃ t, mg "WIDE" = some (.int 10 t)
  g_TURN : ∃ t, mg "TURN" = some (.int 1 t)
  g_RISING : ∃ t, mg "RISING" = some (.int 2 t)
  g_FALLING : ∃ t, mg "FALLING" = some (.int 3 t)
  g_CREDIT : ∃ t, mg "CREDIT" = some (.int 4 t)
  g_TOPS : ∃ t, mg "TOPS" = some (.int 5 t)
  g_BACKS : ∃ t, mg "BACKS" = some (.int 6 t)
  g_GIVEN : ∃ t, mg "GIVEN" = some (.int 7 t)
  g_STAMP : ∃ t, mg "STAMP" = some (.int 8 t)
  g_AMOUNT : ∃ t, mg "AMOUNT" = some (.int 9 t)
  g_WHEEL : ∃ t, mg "WHEEL" = some (.int 999983 t)
  g_TOP : ∃ t, mg "TOP" = some (.int 1 t)
  g_BACK : ∃ t, mg "BACK" = some (.int 2 t)
  g_MOST_AMOUNT : ∃ t, mg "MOST_AMOUNT" = some (.int 99999 t)
  g_MOST_NUMBER : ∃ t, mg "MOST_NUMBER" = some (.int 9999 t)
  g_MOST_KEY : ∃ t, mg "MOST_KEY" = some (.int 999981 t)
  n_ValueError : mg "ValueError" = none
  n_int : mg "int" = none
  n_isinstance : mg "isinstance" = none
  n_len : mg "len" = none
  n_list : mg "list" = none
  n_max : mg "max" = none
  n_range : mg "range" = none
  E_FrankError : Addr
  x_FrankError : ExF K mg "FrankError" E_FrankError
  E_NoBank : Addr
  x_NoBank : ExF K mg "NoBank" E_NoBank
  E_BadNumber : Addr
  x_BadNumber : ExF K mg "BadNumber" E_BadNumber
  E_BadAmount : Addr
  x_BadAmount : ExF K mg "BadAmount" E_BadAmount
  E_BadCode : Addr
  x_BadCode : ExF K mg "BadCode" E_BadCode
  E_Short : Addr
  x_Short : ExF K mg "Short" E_Short
  E_Down : Addr
  x_Down : ExF K mg "Down" E_Down
  E_Up : Addr
  x_Up : ExF K mg "Up" E_Up
  E_NoMeter : Addr
  x_NoMeter : ExF K mg "NoMeter" E_NoMeter
  hd_FrankError : PySem.W.hasDictIn K E_FrankError = true
  i_NoBank : ExI K E_NoBank E_FrankError
  i_BadNumber : ExI K E_BadNumber E_FrankError
  i_BadAmount : ExI K E_BadAmount E_FrankError
  i_BadCode : ExI K E_BadCode E_FrankError
  i_Short : ExI K E_Short E_FrankError
  i_Down : ExI K E_Down E_FrankError
  i_Up : ExI K E_Up E_FrankError
  i_NoMeter : ExI K E_NoMeter E_FrankError
  kt_NoBank_NoBank : PySem.W.kitOne K (.ref E_NoBank) (.ref E_NoBank) = some true
  kt_NoBank_BadNumber : PySem.W.kitOne K (.ref E_NoBank) (.ref E_BadNumber) = some false
  kt_NoBank_BadAmount : PySem.W.kitOne K (.ref E_NoBank) (.ref E_BadAmount) = some false
  kt_NoBank_BadCode : PySem.W.kitOne K (.ref E_NoBank) (.ref E_BadCode) = some false
  kt_NoBank_Short : PySem.W.kitOne K (.ref E_NoBank) (.ref E_Short) = some false
  kt_NoBank_Down : PySem.W.kitOne K (.ref E_NoBank) (.ref E_Down) = some false
  kt_NoBank_Up : PySem.W.kitOne K (.ref E_NoBank) (.ref E_Up) = some false
  kt_NoBank_NoMeter : PySem.W.kitOne K (.ref E_NoBank) (.ref E_NoMeter) = some false
  kt_BadNumber_NoBank : PySem.W.kitOne K (.ref E_BadNumber) (.ref E_NoBank) = some false
  kt_BadNumber_BadNumber : PySem.W.kitOne K (.ref E_BadNumber) (.ref E_BadNumber) = some true
  kt_BadNumber_BadAmount : PySem.W.kitOne K (.ref E_BadNumber) (.ref E_BadAmount) = some false
  kt_BadNumber_BadCode : PySem.W.kitOne K (.ref E_BadNumber) (.ref E_BadCode) = some false
  kt_BadNumber_Short : PySem.W.kitOne K (.ref E_BadNumber) (.ref E_Short) = some false
  kt_BadNumber_Down : PySem.W.kitOne K (.ref E_BadNumber) (.ref E_Down) = some false
  kt_BadNumber_Up : PySem.W.kitOne K (.ref E_BadNumber) (.ref E_Up) = some false
  kt_BadNumber_NoMeter : PySem.W.kitOne K (.ref E_BadNumber) (.ref E_NoMeter) = some false
  kt_BadAmount_NoBank : PySem.W.kitOne K (.ref E_BadAmount) (.ref E_NoBank) = some false
  kt_BadAmount_BadNumber : PySem.W.kitOne K (.ref E_BadAmount) (.ref E_BadNumber) = some false
  kt_BadAmount_BadAmount : PySem.W.kitOne K (.ref E_BadAmount) (.ref E_BadAmount) = some true
  kt_BadAmount_BadCode : PySem.W.kitOne K (.ref E_BadAmount) (.ref E_BadCode) = some false
  kt_BadAmount_Short : PySem.W.kitOne K (.ref E_BadAmount) (.ref E_Short) = some false
  kt_BadAmount_Down : PySem.W.kitOne K (.ref E_BadAmount) (.ref E_Down) = some false
  kt_BadAmount_Up : PySem.W.kitOne K (.ref E_BadAmount) (.ref E_Up) = some false
  kt_BadAmount_NoMeter : PySem.W.kitOne K (.ref E_BadAmount) (.ref E_NoMeter) = some false
  kt_BadCode_NoBank : PySem.W.kitOne K (.ref E_BadCode) (.ref E_NoBank) = some false
  kt_BadCode_BadNumber : PySem.W.kitOne K (.ref E_BadCode) (.ref E_BadNumber) = some false
  kt_BadCode_BadAmount : PySem.W.kitOne K (.ref E_BadCode) (.ref E_BadAmount) = some false
  kt_BadCode_BadCode : PySem.W.kitOne K (.ref E_BadCode) (.ref E_BadCode) = some true
  kt_BadCode_Short : PySem.W.kitOne K (.ref E_BadCode) (.ref E_Short) = some false
  kt_BadCode_Down : PySem.W.kitOne K (.ref E_BadCode) (.ref E_Down) = some false
  kt_BadCode_Up : PySem.W.kitOne K (.ref E_BadCode) (.ref E_Up) = some false
  kt_BadCode_NoMeter : PySem.W.kitOne K (.ref E_BadCode) (.ref E_NoMeter) = some false
  kt_Short_NoBank : PySem.W.kitOne K (.ref E_Short) (.ref E_NoBank) = some false
  kt_Short_BadNumber : PySem.W.kitOne K (.ref E_Short) (.ref E_BadNumber) = some false
  kt_Short_BadAmount : PySem.W.kitOne K (.ref E_Short) (.ref E_BadAmount) = some false
  kt_Short_BadCode : PySem.W.kitOne K (.ref E_Short) (.ref E_BadCode) = some false
  kt_Short_Short : PySem.W.kitOne K (.ref E_Short) (.ref E_Short) = some true
  kt_Short_Down : PySem.W.kitOne K (.ref E_Short) (.ref E_Down) = some false
  kt_Short_Up : PySem.W.kitOne K (.ref E_Short) (.ref E_Up) = some false
  kt_Short_NoMeter : PySem.W.kitOne K (.ref E_Short) (.ref E_NoMeter) = some false
  kt_Down_NoBank : PySem.W.kitOne K (.ref E_Down) (.ref E_NoBank) = some false
  kt_Down_BadNumber : PySem.W.kitOne K (.ref E_Down) (.ref E_BadNumber) = some false
  kt_Down_BadAmount : PySem.W.kitOne K (.ref E_Down) (.ref E_BadAmount) = some false
  kt_Down_BadCode : PySem.W.kitOne K (.ref E_Down) (.ref E_BadCode) = some false
  kt_Down_Short : PySem.W.kitOne K (.ref E_Down) (.ref E_Short) = some false
  kt_Down_Down : PySem.W.kitOne K (.ref E_Down) (.ref E_Down) = some true
  kt_Down_Up : PySem.W.kitOne K (.ref E_Down) (.ref E_Up) = some false
  kt_Down_NoMeter : PySem.W.kitOne K (.ref E_Down) (.ref E_NoMeter) = some false
  kt_Up_NoBank : PySem.W.kitOne K (.ref E_Up) (.ref E_NoBank) = some false
  kt_Up_BadNumber : PySem.W.kitOne K (.ref E_Up) (.ref E_BadNumber) = some false
  kt_Up_BadAmount : PySem.W.kitOne K (.ref E_Up) (.ref E_BadAmount) = some false
  kt_Up_BadCode : PySem.W.kitOne K (.ref E_Up) (.ref E_BadCode) = some false
  kt_Up_Short : PySem.W.kitOne K (.ref E_Up) (.ref E_Short) = some false
  kt_Up_Down : PySem.W.kitOne K (.ref E_Up) (.ref E_Down) = some false
  kt_Up_Up : PySem.W.kitOne K (.ref E_Up) (.ref E_Up) = some true
  kt_Up_NoMeter : PySem.W.kitOne K (.ref E_Up) (.ref E_NoMeter) = some false
  kt_NoMeter_NoBank : PySem.W.kitOne K (.ref E_NoMeter) (.ref E_NoBank) = some false
  kt_NoMeter_BadNumber : PySem.W.kitOne K (.ref E_NoMeter) (.ref E_BadNumber) = some false
  kt_NoMeter_BadAmount : PySem.W.kitOne K (.ref E_NoMeter) (.ref E_BadAmount) = some false
  kt_NoMeter_BadCode : PySem.W.kitOne K (.ref E_NoMeter) (.ref E_BadCode) = some false
  kt_NoMeter_Short : PySem.W.kitOne K (.ref E_NoMeter) (.ref E_Short) = some false
  kt_NoMeter_Down : PySem.W.kitOne K (.ref E_NoMeter) (.ref E_Down) = some false
  kt_NoMeter_Up : PySem.W.kitOne K (.ref E_NoMeter) (.ref E_Up) = some false
  kt_NoMeter_NoMeter : PySem.W.kitOne K (.ref E_NoMeter) (.ref E_NoMeter) = some true
  C_Meter : Addr
  cls_Meter : Cls K C_Meter
  g_Meter : mg "Meter" = some (.ref C_Meter)
  mk_Meter_ : PySem.W.makesIn K C_Meter = true
  kc_Meter : PySem.W.keepIn K (.ref C_Meter) = true
  na_Meter_own : NoAttr K C_Meter "own"
  na_Meter_key : NoAttr K C_Meter "key"
  na_Meter_memory : NoAttr K C_Meter "memory"
  na_Meter_prints : NoAttr K C_Meter "prints"
  na_Meter_awake : NoAttr K C_Meter "awake"
  f_at_first : FnF K mg "at_first" s_at_first []
  f_standing : FnF K mg "standing" s_standing ["cells"]
  f_bank_of : FnF K mg "bank_of" s_bank_of ["cells"]
  f_steps_to : FnF K mg "steps_to" s_steps_to ["cells", "changes"]
  f_sign_of : FnF K mg "sign_of" s_sign_of ["key", "meter", "count", "amount", "kind"]
  f_code_of : FnF K mg "code_of" s_code_of ["key", "meter", "count", "amount", "kind"]
  f_is_amount : FnF K mg "is_amount" s_is_amount ["amount"]
  f_need_amount : FnF K mg "need_amount" s_need_amount ["amount"]
  f_is_good : FnF K mg "is_good" s_is_good ["key", "code", "meter", "count", "kind"]
  f_need_key : FnF K mg "need_key" s_need_key ["key"]
  f_need_number : FnF K mg "need_number" s_need_number ["number"]
  m_Meter___init__ : MeF K C_Meter "__init__" "Meter.__init__" s_Meter___init__ ["self", "number", "key"]
  m_Meter_cells : MeF K C_Meter "cells" "Meter.cells" s_Meter_cells ["self"]
  m_Meter_stamps : MeF K C_Meter "stamps" "Meter.stamps" s_Meter_stamps ["self"]
  m_Meter_is_up : MeF K C_Meter "is_up" "Meter.is_up" s_Meter_is_up ["self"]
  m_Meter_sums : MeF K C_Meter "sums" "Meter.sums" s_Meter_sums ["self"]
  m_Meter_need_up : MeF K C_Meter "need_up" "Meter.need_up" s_Meter_need_up ["self"]
  m_Meter_write : MeF K C_Meter "write" "Meter.write" s_Meter_write ["self", "changes", "cut"]
  m_Meter_owed : MeF K C_Meter "owed" "Meter.owed" s_Meter_owed ["self"]
  m_Meter_print_owed : MeF K C_Meter "print_owed" "Meter.print_owed" s_Meter_print_owed ["self", "cut"]
  m_Meter_stamp : MdF K C_Meter "stamp" "Meter.stamp" s_Meter_stamp ["self", "amount", "cut"]
  m_Meter_top_up : MdF K C_Meter "top_up" "Meter.top_up" s_Meter_top_up ["self", "code", "cut"]
  m_Meter_give_back : MdF K C_Meter "give_back" "Meter.give_back" s_Meter_give_back ["self", "amount", "cut"]
  m_Meter_last_back : MeF K C_Meter "last_back" "Meter.last_back" s_Meter_last_back ["self"]
  m_Meter_come_up : MdF K C_Meter "come_up" "Meter.come_up" s_Meter_come_up ["self", "cut"]
  f_recovered : FnF K mg "recovered" s_recovered ["number", "key", "cells", "stamps"]
  f__law_start : FnF K mg "_law_start" s__law_start ["_law_script"]
  f__law_drawn : FnF K mg "_law_drawn" s__law_drawn ["_law_state", "_law_many"]
  f__law_kind : FnF K mg "_law_kind" s__law_kind ["_law_work"]
  f__law_amount : FnF K mg "_law_amount" s__law_amount ["_law_state"]
  f__law_sign : FnF K mg "_law_sign" s__law_sign ["_law_key", "_law_meter_here", "_law_count", "_law_amount_here", "_law_kind_here"]
  f__law_code : FnF K mg "_law_code" s__law_code ["_law_key", "_law_meter_here", "_law_count", "_law_amount_here", "_law_kind_here"]
  f__law_meter : FnF K mg "_law_meter" s__law_meter ["_law_number", "_law_key"]
  f__law_bank : FnF K mg "_law_bank" s__law_bank ["_law_cells"]
  f__law_steps : FnF K mg "_law_steps" s__law_steps ["_law_m", "_law_news"]
  f__law_owed : FnF K mg "_law_owed" s__law_owed ["_law_m"]
  f__law_run : FnF K mg "_law_run" s__law_run ["_law_m", "_law_news", "_law_cut_here"]
  f__law_word : FnF K mg "_law_word" s__law_word ["_law_m", "_law_deed_here"]
  f__law_due : FnF K mg "_law_due" s__law_due ["_law_m", "_law_deed_here", "_law_cut_here"]
  f__law_does : FnF K mg "_law_does" s__law_does ["_law_meter_here", "_law_deed_here", "_law_cut_here"]
  f__law_deed : FnF K mg "_law_deed" s__law_deed ["_law_state", "_law_m"]
  f__law_cut : FnF K mg "_law_cut" s__law_cut ["_law_state"]
  f__law_fresh : FnF K mg "_law_fresh" s__law_fresh ["_law_state"]
  f__law_step : FcF K mg "_law_step" s__law_step ["_law_state", "_law_meter_here", "_law_m"]
  f__law_like : FnF K mg "_law_like" s__law_like ["_law_meter_here", "_law_m"]
  f__law_told : FnF K mg "_law_told" s__law_told ["_law_meter_here"]
  f__law_after : FnF K mg "_law_after" s__law_after ["_law_state", "_law_meter_here", "_law_m", "_law_deed_here", "_law_cut_here"]
  f_law : FnF K mg "law" s_law ["_law_script"]
end Fk

set_option maxHeartbeats 4000000
namespace Fk
open PySem PySem.Spec PyProof.Rows L2
local macro_rules | `(tactic| wtm_at "ln") => `(tactic| first
  | omega
  | (simp only [List.length_cons, List.length_nil, List.length_map, List.length_append, List.length_replicate, List.length_take, List.length_drop, List.length_set]; omega)
  | (with_unfolding_all exact (by decide)))
local macro_rules | `(tactic| wtm_at "ar") => `(tactic| first
  | ((with_reducible show CMulW _ _); (refine' mulS ?_ ?_ <;> omega))
  | ((with_reducible show CDivW _ _); (refine' divS ?_ ?_ <;> omega))
  | ((with_reducible show CPow _ _); exact ⟨by decide, by decide, by decide⟩)
  | (show (0 : Int) < _; omega)
  | (with_unfolding_all exact (by decide)))
local macro_rules | `(tactic| wtm_at "at") => `(tactic| first
  | assumption
  | (refine' cl_atE ?e80 ?h80; (case' e80 => first | exact rfl | assumption); (case' h80 => wtm_at "ln"))
  | exact rfl)
local macro_rules | `(tactic| wtm_at "fr") => `(tactic| first
  | assumption
  | ((with_reducible refine' Mx.free0 ?m99 ?h99); (case' h99 => assumption); (case' m99 => wtm_at "mo")))
local macro_rules | `(tactic| wtm_at "hp") => `(tactic| first
  | assumption
  | ((with_reducible refine' Mx.get0 ?m1 ?h1); (case' m1 => assumption); (case' h1 => wtm_at "hp"))
  | ((with_reducible refine' Mx.get ?m2 ?n2 ?h2); (case' m2 => assumption); (case' n2 => wtm_at "nin"); (case' h2 => wtm_at "hp")))
local macro_rules | `(tactic| wtm_at "sl") => `(tactic| first
  | assumption
  | ((with_reducible refine' Mx.sqL0 ?m96 ?h96); (case' h96 => assumption); (case' m96 => wtm_at "mo"))
  | (refine' SqL.of ?h3; (case' h3 => wtm_at "hp"))
  | ((with_reducible refine' Mx.sqL0 ?m4 ?h4); (case' m4 => assumption); (case' h4 => wtm_at "sl"))
  | ((with_reducible refine' Mx.sqL ?m5 ?n5 ?h5); (case' m5 => assumption); (case' n5 => wtm_at "nin"); (case' h5 => wtm_at "sl")))
local macro_rules | `(tactic| wtm_at "st") => `(tactic| first
  | assumption
  | ((with_reducible refine' Mx.sqT0 ?m97 ?h97); (case' h97 => assumption); (case' m97 => wtm_at "mo"))
  | (refine' SqT.of ?h6; (case' h6 => wtm_at "hp"))
  | ((with_reducible refine' Mx.sqT0 ?m7 ?h7); (case' m7 => assumption); (case' h7 => wtm_at "st"))
  | ((with_reducible refine' Mx.sqT ?m8 ?n8 ?h8); (case' m8 => assumption); (case' n8 => wtm_at "nin"); (case' h8 => wtm_at "st")))
local macro_rules | `(tactic| wtm_at "mx") => `(tactic| first
  | assumption
  | exact Mx.refl
  | ((with_reducible refine' Mx.of0 ?h9); (case' h9 => assumption))
  | ((with_reducible refine' Mx.trans ?h10 ?m10); (case' m10 => first | assumption | ((with_reducible refine' Mx.of0 ?q10); (case' q10 => assumption))); (case' h10 => wtm_at "mx")))
local macro_rules | `(tactic| wtm_at "mo") => `(tactic| first
  | wtm_at "mx"
  | ((with_reducible refine' Mx.own ?m90 ?f90 ?k90); (case' k90 => assumption); (case' f90 => wtm_at "fr"); (case' m90 => wtm_at "mo"))
  | ((with_reducible refine' Mx.trans ?h91 ?m91); (case' m91 => first | assumption | ((with_reducible refine' Mx.of0 ?q91); (case' q91 => assumption))); (case' h91 => wtm_at "mo")))
local macro_rules | `(tactic| wtm_at "ne") => `(tactic| first
  | assumption
  | exact Ne.symm (by assumption)
  | ((with_reducible refine' ne_of_none ?x94 ?y94); (case' y94 => assumption); (case' x94 => wtm_at "hp"))
  | ((with_reducible refine' Ne.symm (ne_of_none ?x95 ?y95)); (case' y95 => assumption); (case' x95 => wtm_at "hp")))
local macro_rules | `(tactic| wtm_at "nin") => `(tactic| first
  | assumption
  | exact List.not_mem_nil
  | ((with_reducible refine' List.not_mem_cons_of_ne_of_not_mem ?h98 ?t98); (case' h98 => wtm_at "ne"); (case' t98 => wtm_at "nin")))
local macro_rules | `(tactic| wtm_at "g1") => `(tactic| first
  | ((with_reducible refine' g_var ?h11 ?k11); (case' h11 => exact rfl))
  | with_reducible refine' g_c ?_
  | with_reducible refine' g_op ?_
  | with_reducible refine' g_I0 ?_
  | ((with_reducible refine' g_I ?c12 ?k12); (case' c12 => wtm_at "ar"))
  | with_reducible refine' g_cons ?_
  | with_reducible refine' g_nil ?_
  | with_reducible refine' g_seq ?_
  | with_reducible refine' g_asg ?_
  | with_reducible refine' g_name ?_
  | with_reducible refine' g_ret ?_
  | with_reducible refine' g_if ?_
  | with_reducible refine' g_test ?_
  | with_reducible refine' g_tB ?_
  | with_reducible refine' g_bl ?_
  | ((with_reducible refine' g_eq ?h13 ?k13); (case' h13 => exact rfl))
  | ((with_reducible refine' g_ne ?h14 ?k14); (case' h14 => exact rfl))
  | with_reducible refine' g_CB ?_
  | with_reducible refine' g_call ?_
  | with_reducible refine' g_drop ?_
  | with_reducible refine' g_next ?_
  | with_reducible refine' g_not ?_
  | with_reducible refine' g_and ?_
  | with_reducible refine' g_or ?_
  | with_reducible refine' g_un ?_
  | with_reducible refine' g_U ?_
  | with_reducible refine' g_tup ?_
  | with_reducible refine' g_lst ?_
  | ((with_reducible refine' g_kNew ?h15 ?k15); (case' h15 => wtm_at "ln"); (case' k15 => intro _ _ _ _ _))
  | ((with_reducible refine' g_ixL ?h16 ?a16 ?k16); (case' h16 => wtm_at "sl"); (case' a16 => wtm_at "at"))
  | ((with_reducible refine' g_ixT ?h17 ?a17 ?k17); (case' h17 => wtm_at "st"); (case' a17 => wtm_at "at"))
  | with_reducible refine' g_slice ?_
  | with_reducible refine' g_part ?_
  | with_reducible refine' g_kPart ?_
  | with_reducible refine' g_noPart ?_
  | ((with_reducible refine' g_slL ?h18 ?k18); (case' h18 => wtm_at "sl"); (case' k18 => intro _ _ _ _ _))
  | ((with_reducible refine' g_cat ?h119 ?h219 ?l19 ?k19); (case' h119 => wtm_at "hp"); (case' h219 => wtm_at "hp"); (case' l19 => wtm_at "ln"); (case' k19 => intro _ _ _ _ _))
  | ((with_reducible refine' g_rep ?h120 ?h220 ?h320 ?l20 ?k20); (case' h120 => wtm_at "hp"); (case' h220 => wtm_at "ln"); (case' h320 => wtm_at "ln"); (case' l20 => wtm_at "ln"); (case' k20 => intro _ _ _ _ _))
  | ((with_reducible refine' g_append ?h21 ?l21 ?k21); (case' h21 => wtm_at "hp"); (case' l21 => wtm_at "ln"); (case' k21 => intro _ _ _))
  | ((with_reducible refine' g_kBM ?h22 ?k22); (case' h22 => wtm_at "sl"))
  | ((with_reducible refine' g_kBM0 ?h23 ?k23); (case' h23 => wtm_at "sl"))
  | ((with_reducible refine' g_kL ?h24 ?k24); (case' h24 => wtm_at "sl"))
  | ((with_reducible refine' g_kR1 ?h125 ?h225 ?k25); (case' h125 => wtm_at "ln"); (case' h225 => wtm_at "ln"))
  | ((with_reducible refine' g_kR2 ?h126 ?h226 ?h326 ?h426 ?k26); (case' h126 => wtm_at "ln"); (case' h226 => wtm_at "ln"); (case' h326 => wtm_at "ln"); (case' h426 => wtm_at "ln"))
  | ((with_reducible refine' g_lenL ?h27 ?k27); (case' h27 => wtm_at "sl"))
  | ((with_reducible refine' g_lenT ?h28 ?k28); (case' h28 => wtm_at "st"))
  | ((with_reducible refine' g_listL ?h29 ?k29); (case' h29 => wtm_at "sl"); (case' k29 => intro _ _ _ _ _))
  | ((with_reducible refine' g_tupleL ?h30 ?k30); (case' h30 => wtm_at "sl"); (case' k30 => intro _ _ _ _ _))
  | with_reducible refine' g_max ?_
  | with_reducible refine' g_min ?_
  | with_reducible refine' g_intB ?_
  | with_reducible refine' g_fld ?_
  | with_reducible refine' g_put ?_
  | with_reducible refine' g_dget ?_
  | with_reducible refine' g_isN ?_
  | with_reducible refine' g_notN ?_
  | with_reducible refine' g_ifE ?_
  | with_reducible refine' g_andV ?_
  | with_reducible refine' g_orV ?_
  | with_reducible refine' g_notV ?_
  | with_reducible refine' g_kIf ?_
  | with_reducible refine' g_chain ?_
  | with_reducible refine' g_kCh ?_
  | with_reducible refine' g_sub ?_
  | ((with_reducible refine' g_setI ?h92 ?e92 ?j92 ?k92); (case' h92 => wtm_at "hp"); (case' e92 => first | exact rfl | assumption); (case' j92 => wtm_at "ln"); (case' k92 => intro _ _ _))
  | ((with_reducible refine' g_setL ?h89 ?i89 ?k89); (case' h89 => wtm_at "hp"); (case' i89 => exact ixE rfl (by wtm_at "ln")); (case' k89 => intro _ _ _))
  | ((with_reducible refine' g_gtup ?h93 ?e93 ?k93); (case' h93 => wtm_at "st"); (case' e93 => exact rfl))
  | with_reducible refine' g_gcons ?_
  | with_reducible refine' g_gnil ?_
  | with_reducible refine' g_par ?_
  | with_reducible refine' g_kPar ?_
  | with_reducible refine' g_meth ?_
  | with_reducible refine' g_bm ?_
  | with_reducible refine' g_bm0 ?_
  | with_reducible refine' g_raise ?_
  | with_reducible refine' g_for ?_
  | with_reducible refine' g_iR1 ?_
  | with_reducible refine' g_iR2 ?_
  | with_reducible refine' g_iL ?_
  | with_reducible refine' g_lc ?_
  | with_reducible refine' g_retN ?_
  | with_reducible refine' g_no (b := false) rfl ?_
  | with_reducible refine' g_yes (b := true) rfl ?_)
local macro_rules | `(tactic| wtm_at "go") => `(tactic| repeat (wtm_at "g1"))
local macro_rules | `(tactic| wtm_at "gs") => `(tactic| repeat ((fail_if_success (with_reducible refine' g_ifE ?_)); wtm_at "g1"))
local macro_rules | `(tactic| wtm_at "gi") => `(tactic| repeat ((fail_if_success (with_reducible refine' g_if ?_)); wtm_at "g1"))
local macro_rules | `(tactic| wtm_at "gr") => `(tactic| repeat ((fail_if_success (with_reducible refine' g_ret ?_)); wtm_at "g1"))
local macro_rules | `(tactic| wtm_at "gq") => `(tactic| repeat ((fail_if_success (with_reducible refine' g_asg ?_)); wtm_at "g1"))
/-! ### banks -/
/-- which bank stands, where one does -/
def stand (cs : List Int) : Nat := if cl cs 0 = 1 ∧ ¬ (cl cs 10 = 1 ∧ cl cs 1 < cl cs 11) then 0 else 1
def Any (cs : List Int) : Prop := cs.length = 20 ∧ (cl cs 0 = 1 ∨ cl cs 10 = 1)
def bank (cs : List Int) : List Int := (cs.drop (stand cs * 10)).take 10
section
variable {P : Program} {w : World} {K : PySem.W.Frag} {mg : Str → Option Value} {base : Heap}
def spAtFirst : Sp := fun vs H Q _ => vs = [] ∧ ∀ p H', H p = none → Mx [] H H' → H' p = some (.lst (((1 : Int) :: List.replicate 19 0).map V.int)) → Q (.ref p) H'
theorem c_at_first (T : Tx K mg) : Cl P w K mg base 1 "at_first" spAtFirst [] := by
  refine T.f_at_first.cl sc_at_first (fun vs H Q E h => ?_) (fun cdv A outer s H vs Q E hr h => ?_)
  · obtain ⟨rfl, _⟩ := h
    rfl
  · obtain ⟨rfl, k⟩ := h
    refine ⟨_, (pss_one (ps_ret (pe_op op_cat (pe_lst (pa_cons pe_int pa_nil)) (pe_op op_rep (pe_lst (pa_cons pe_int pa_nil)) (pe_op op_sub (pe_op op_mulW pe_int (q_const T.g_WIDE rfl)) pe_int))))), ?_⟩
    wtm_at "go"
    exact k _ _ (by wtm_at "fr") (by wtm_at "mx") (by assumption)
/-- standing -/
def spStanding (T : Tx K mg) : Sp := fun vs H Q E => ∃ (a : Addr) (cs : List Int), vs = [.ref a] ∧ SqL K H a (cs.map V.int) ∧ cs.length ≤ 100000 ∧
  (Any cs → ∀ H', Mx [] H H' → Q (.int (stand cs)) H') ∧ (¬ Any cs → ∀ H', Mx [] H H' → E (.ref T.E_NoBank) none H')
theorem c_standing (T : Tx K mg) : Cl P w K mg base 1 "standing" (spStanding T) [] := by
  refine T.f_standing.cl sc_standing (fun vs H Q E h => ?_) (fun cdv A outer s H vs Q E hr h => ?_)
  · obtain ⟨a, cs, rfl, _⟩ := h
    rfl
  · obtain ⟨a, cs, rfl, hS, hl, k1, k2⟩ := h
    refine ⟨_, (pss_cons (ps_if (pt_cmpR op_ne (pe_callB (cLen K) (by rfl) T.n_len (by decide +kernel) (pa_cons (pv 0) pa_nil)) (pe_op op_mulW pe_int (q_const T.g_WIDE rfl)) (by first | exact nomark _ | rfl)) (pss_one (q_raise rfl (takes_of rfl rfl rfl rfl) T.x_NoBank rfl)) pss_nil)
      (pss_cons (ps_setLc (i := 1) (own := [("bank", 2)]) (g := gName 2) rfl sc_standing.nd rfl rfl (sw_true rfl rfl rfl (by decide +kernel)) (pi_range1 rfl T.n_range (pa_cons pe_int pa_nil)) (blkOk_by (own := [("bank", 2)]) (N := N_standing) (sc := defScope s_standing) (by decide +kernel)) (fun _ _ _ _ _ => pg_name (i := 2) sc_standing.nd rfl (by first | exact Or.inl rfl | exact Or.inr rfl)) (fun _ _ _ _ _ => (pts_one (pt_cmpR op_eq (pe_ix (ixL K) (pv 0) (pe_op op_mulW (pv 2) (q_const T.g_WIDE rfl)) (fun _ _ => rfl)) pe_int (by first | exact nomark _ | rfl)))) (fun _ _ _ _ _ => (pv 2)))
      (pss_cons (ps_if (pt_cmpR (opEqD K hr.units) (pv 1) (pe_lst pa_nil) (by first | exact nomark _ | rfl)) (pss_one (q_raise rfl (takes_of rfl rfl rfl rfl) T.x_NoBank rfl)) pss_nil)
      (pss_cons (ps_if (PW.pt (pw_and (pt_cmpR op_eq (pe_callB (cLen K) (by rfl) T.n_len (by decide +kernel) (pa_cons (pv 1) pa_nil)) pe_int (by first | exact nomark _ | rfl)) (pw_and1 (pt_cmpR op_lt (pe_ix (ixL K) (pv 0) (q_const T.g_TURN rfl) (fun _ _ => rfl)) (pe_ix (ixL K) (pv 0) (pe_op op_add (q_const T.g_WIDE rfl) (q_const T.g_TURN rfl)) (fun _ _ => rfl)) (by first | exact nomark _ | rfl))))) (pss_one (ps_ret pe_int)) pss_nil)
      (pss_one (ps_ret (pe_ix (ixL K) (pv 1) pe_int (fun _ _ => rfl)))))))), ?_⟩
    have W10 : (2 : Int) * 10 = 20 := rfl
    wtm_at "go"
    refine g_ite (fun e => ?_) (fun e => ?_)
    · wtm_at "go"
      refine k2 (fun z => ?_) _ Mx.refl
      have := z.1
      simp at e
      omega
    · have e20 : cs.length = 20 := by
        simp at e
        omega
      wtm_at "go"
      refine g_lcR (fun b => if cl cs (b * 10) = 1 then some (.int b) else none) (by intro x; rfl) (by decide) (fun i H' QN hi m hQ => ?_) (fun Dl H' hD m eD => ?_)
      · have ha : atI (cs.map V.int) ((0 + (i : Int)) * 10) = some (.int (cl cs (i * 10))) := cl_atE (by omega) (by omega)
        wtm_at "go"
        refine g_ite (fun e1 => ?_) (fun e1 => ?_)
        · wtm_at "go"
          refine hQ _ _ Mx.refl ?_
          simp at e1
          simp [e1]
        · refine hQ _ _ Mx.refl ?_
          simp at e1
          simp [e1]
      · have key : ∃ ws : List Int, (List.range (Int.toNat 2)).filterMap (fun b => if cl cs (b * 10) = 1 then some (V.int b) else none) = ws.map V.int ∧
            ((ws = [] ∧ ¬ cl cs 0 = 1 ∧ ¬ cl cs 10 = 1) ∨ (ws = [0] ∧ cl cs 0 = 1 ∧ ¬ cl cs 10 = 1) ∨ (ws = [1] ∧ ¬ cl cs 0 = 1 ∧ cl cs 10 = 1) ∨ (ws = [0, 1] ∧ cl cs 0 = 1 ∧ cl cs 10 = 1)) := by
          have e2 : List.range (Int.toNat 2) = [0, 1] := rfl
          rw [e2]
          by_cases h0 : cl cs 0 = 1 <;> by_cases h1 : cl cs 10 = 1
          · exact ⟨[0, 1], by simp [h0, h1], by simp [h0, h1]⟩
          · exact ⟨[0], by simp [h0, h1], by simp [h0, h1]⟩
          · exact ⟨[1], by simp [h0, h1], by simp [h0, h1]⟩
          · exact ⟨[], by simp [h0, h1], by simp [h0, h1]⟩
        obtain ⟨ws, ew, hw⟩ := key
        rw [ew] at eD
        wtm_at "go"
        refine g_eqI (ys := []) (by wtm_at "sl") (by wtm_at "sl") ?_
        wtm_at "go"
        refine g_ite (fun e1 => ?_) (fun e1 => ?_)
        · wtm_at "go"
          refine k2 (fun z => ?_) _ (by wtm_at "mx")
          simp at e1
          rcases hw with ⟨_, a1, a2⟩ | ⟨q, _⟩ | ⟨q, _⟩ | ⟨q, _⟩
          · exact z.2.elim a1 a2
          all_goals (rw [e1] at q; cases q)
        · simp at e1
          have hAny : Any cs := ⟨e20, by
            rcases hw with ⟨q, _⟩ | ⟨_, a1, _⟩ | ⟨_, _, a1⟩ | ⟨_, a1, _⟩
            · exact absurd q e1
            · exact .inl a1
            · exact .inr a1
            · exact .inl a1⟩
          wtm_at "go"
          refine g_ite (fun e2 => ?_) (fun e2 => ?_)
          · have hw2 : ws = [0, 1] ∧ cl cs 0 = 1 ∧ cl cs 10 = 1 := by
              simp at e2
              rcases hw with ⟨q, _⟩ | ⟨q, _⟩ | ⟨q, _⟩ | q
              · rw [q] at e2; simp at e2
              · rw [q] at e2; simp at e2
              · rw [q] at e2; simp at e2
              · exact q
            wtm_at "go"
            refine g_ite (fun e3 => ?_) (fun e3 => ?_)
            · wtm_at "go"
              have es : stand cs = 1 := by
                simp at e3
                unfold stand
                rw [if_neg]
                intro z
                exact z.2 ⟨hw2.2.2, e3⟩
              rw [es] at k1
              exact k1 hAny _ (by wtm_at "mx")
            · have es : stand cs = 0 := by
                simp at e3
                unfold stand
                rw [if_pos]
                refine ⟨hw2.2.1, fun z => ?_⟩
                omega
              have e4 : ws = [0, 1] := hw2.1
              subst e4
              wtm_at "go"
              rw [es] at k1
              exact k1 hAny _ (by wtm_at "mx")
          · have hw2 : (ws = [0] ∧ stand cs = 0) ∨ (ws = [1] ∧ stand cs = 1) := by
              simp at e2
              rcases hw with ⟨q, _⟩ | ⟨q, a1, a2⟩ | ⟨q, a1, a2⟩ | ⟨q, _⟩
              · exact absurd q e1
              · exact .inl ⟨q, by unfold stand; rw [if_pos ⟨a1, fun z => a2 z.1⟩]⟩
              · exact .inr ⟨q, by unfold stand; rw [if_neg fun z => a1 z.1]⟩
              · rw [q] at e2; simp at e2
            rcases hw2 with ⟨rfl, es⟩ | ⟨rfl, es⟩
            · wtm_at "go"
              rw [es] at k1
              exact k1 hAny _ (by wtm_at "mx")
            · wtm_at "go"
              rw [es] at k1
              exact k1 hAny _ (by wtm_at "mx")
end
end Fk
namespace Fk
open PySem PySem.Spec PyProof.Rows L2
local macro_rules | `(tactic| wtm_at "ln") => `(tactic| first
  | omega
  | (simp only [List.length_cons, List.length_nil, List.length_map, List.length_append, List.length_replicate, List.length_take, List.length_drop, List.length_set]; omega)
  | (with_unfolding_all exact (by decide)))
local macro_rules | `(tactic| wtm_at "ar") => `(tactic| first
  | ((with_reducible show CMulW _ _); (refine' mulS ?_ ?_ <;> omega))
  | ((with_reducible show CDivW _ _); (refine' divS ?_ ?_ <;> omega))
  | ((with_reducible show CPow _ _); exact ⟨by decide, by decide, by decide⟩)
  | (show (0 : Int) < _; omega)
  | (with_unfolding_all exact (by decide)))
local macro_rules | `(tactic| wtm_at "at") => `(tactic| first
  | assumption
  | (refine' cl_atE ?e80 ?h80; (case' e80 => first | exact rfl | assumption); (case' h80 => wtm_at "ln"))
  | exact rfl)
local macro_rules | `(tactic| wtm_at "fr") => `(tactic| first
  | assumption
  | ((with_reducible refine' Mx.free0 ?m99 ?h99); (case' h99 => assumption); (case' m99 => wtm_at "mo")))
local macro_rules | `(tactic| wtm_at "hp") => `(tactic| first
  | assumption
  | ((with_reducible refine' Mx.get0 ?m1 ?h1); (case' m1 => assumption); (case' h1 => wtm_at "hp"))
  | ((with_reducible refine' Mx.get ?m2 ?n2 ?h2); (case' m2 => assumption); (case' n2 => wtm_at "nin"); (case' h2 => wtm_at "hp")))
local macro_rules | `(tactic| wtm_at "sl") => `(tactic| first
  | assumption
  | ((with_reducible refine' Mx.sqL0 ?m96 ?h96); (case' h96 => assumption); (case' m96 => wtm_at "mo"))
  | (refine' SqL.of ?h3; (case' h3 => wtm_at "hp"))
  | ((with_reducible refine' Mx.sqL0 ?m4 ?h4); (case' m4 => assumption); (case' h4 => wtm_at "sl"))
  | ((with_reducible refine' Mx.sqL ?m5 ?n5 ?h5); (case' m5 => assumption); (case' n5 => wtm_at "nin"); (case' h5 => wtm_at "sl")))
local macro_rules | `(tactic| wtm_at "st") => `(tactic| first
  | assumption
  | ((with_reducible refine' Mx.sqT0 ?m97 ?h97); (case' h97 => assumption); (case' m97 => wtm_at "mo"))
  | (refine' SqT.of ?h6; (case' h6 => wtm_at "hp"))
  | ((with_reducible refine' Mx.sqT0 ?m7 ?h7); (case' m7 => assumption); (case' h7 => wtm_at "st"))
  | ((with_reducible refine' Mx.sqT ?m8 ?n8 ?h8); (case' m8 => assumption); (case' n8 => wtm_at "nin"); (case' h8 => wtm_at "st")))
local macro_rules | `(tactic| wtm_at "mx") => `(tactic| first
  | assumption
  | exact Mx.refl
  | ((with_reducible refine' Mx.of0 ?h9); (case' h9 => assumption))
  | ((with_reducible refine' Mx.trans ?h10 ?m10); (case' m10 => first | assumption | ((with_reducible refine' Mx.of0 ?q10); (case' q10 => assumption))); (case' h10 => wtm_at "mx")))
local macro_rules | `(tactic| wtm_at "mo") => `(tactic| first
  | wtm_at "mx"
  | ((with_reducible refine' Mx.own ?m90 ?f90 ?k90); (case' k90 => assumption); (case' f90 => wtm_at "fr"); (case' m90 => wtm_at "mo"))
  | ((with_reducible refine' Mx.trans ?h91 ?m91); (case' m91 => first | assumption | ((with_reducible refine' Mx.of0 ?q91); (case' q91 => assumption))); (case' h91 => wtm_at "mo")))
local macro_rules | `(tactic| wtm_at "ne") => `(tactic| first
  | assumption
  | exact Ne.symm (by assumption)
  | ((with_reducible refine' ne_of_none ?x94 ?y94); (case' y94 => assumption); (case' x94 => wtm_at "hp"))
  | ((with_reducible refine' Ne.symm (ne_of_none ?x95 ?y95)); (case' y95 => assumption); (case' x95 => wtm_at "hp")))
local macro_rules | `(tactic| wtm_at "nin") => `(tactic| first
  | assumption
  | exact List.not_mem_nil
  | ((with_reducible refine' List.not_mem_cons_of_ne_of_not_mem ?h98 ?t98); (case' h98 => wtm_at "ne"); (case' t98 => wtm_at "nin")))
local macro_rules | `(tactic| wtm_at "g1") => `(tactic| first
  | ((with_reducible refine' g_var ?h11 ?k11); (case' h11 => exact rfl))
  | with_reducible refine' g_c ?_
  | with_reducible refine' g_op ?_
  | with_reducible refine' g_I0 ?_
  | ((with_reducible refine' g_I ?c12 ?k12); (case' c12 => wtm_at "ar"))
  | with_reducible refine' g_cons ?_
  | with_reducible refine' g_nil ?_
  | with_reducible refine' g_seq ?_
  | with_reducible refine' g_asg ?_
  | with_reducible refine' g_name ?_
  | with_reducible refine' g_ret ?_
  | with_reducible refine' g_if ?_
  | with_reducible refine' g_test ?_
  | with_reducible refine' g_tB ?_
  | with_reducible refine' g_bl ?_
  | ((with_reducible refine' g_eq ?h13 ?k13); (case' h13 => exact rfl))
  | ((with_reducible refine' g_ne ?h14 ?k14); (case' h14 => exact rfl))
  | with_reducible refine' g_CB ?_
  | with_reducible refine' g_call ?_
  | with_reducible refine' g_drop ?_
  | with_reducible refine' g_next ?_
  | with_reducible refine' g_not ?_
  | with_reducible refine' g_and ?_
  | with_reducible refine' g_or ?_
  | with_reducible refine' g_un ?_
  | with_reducible refine' g_U ?_
  | with_reducible refine' g_tup ?_
  | with_reducible refine' g_lst ?_
  | ((with_reducible refine' g_kNew ?h15 ?k15); (case' h15 => wtm_at "ln"); (case' k15 => intro _ _ _ _ _))
  | ((with_reducible refine' g_ixL ?h16 ?a16 ?k16); (case' h16 => wtm_at "sl"); (case' a16 => wtm_at "at"))
  | ((with_reducible refine' g_ixT ?h17 ?a17 ?k17); (case' h17 => wtm_at "st"); (case' a17 => wtm_at "at"))
  | with_reducible refine' g_slice ?_
  | with_reducible refine' g_part ?_
  | with_reducible refine' g_kPart ?_
  | with_reducible refine' g_noPart ?_
  | ((with_reducible refine' g_slL ?h18 ?k18); (case' h18 => wtm_at "sl"); (case' k18 => intro _ _ _ _ _))
  | ((with_reducible refine' g_cat ?h119 ?h219 ?l19 ?k19); (case' h119 => wtm_at "hp"); (case' h219 => wtm_at "hp"); (case' l19 => wtm_at "ln"); (case' k19 => intro _ _ _ _ _))
  | ((with_reducible refine' g_rep ?h120 ?h220 ?h320 ?l20 ?k20); (case' h120 => wtm_at "hp"); (case' h220 => wtm_at "ln"); (case' h320 => wtm_at "ln"); (case' l20 => wtm_at "ln"); (case' k20 => intro _ _ _ _ _))
  | ((with_reducible refine' g_append ?h21 ?l21 ?k21); (case' h21 => wtm_at "hp"); (case' l21 => wtm_at "ln"); (case' k21 => intro _ _ _))
  | ((with_reducible refine' g_kBM ?h22 ?k22); (case' h22 => wtm_at "sl"))
  | ((with_reducible refine' g_kBM0 ?h23 ?k23); (case' h23 => wtm_at "sl"))
  | ((with_reducible refine' g_kL ?h24 ?k24); (case' h24 => wtm_at "sl"))
  | ((with_reducible refine' g_kR1 ?h125 ?h225 ?k25); (case' h125 => wtm_at "ln"); (case' h225 => wtm_at "ln"))
  | ((with_reducible refine' g_kR2 ?h126 ?h226 ?h326 ?h426 ?k26); (case' h126 => wtm_at "ln"); (case' h226 => wtm_at "ln"); (case' h326 => wtm_at "ln"); (case' h426 => wtm_at "ln"))
  | ((with_reducible refine' g_lenL ?h27 ?k27); (case' h27 => wtm_at "sl"))
  | ((with_reducible refine' g_lenT ?h28 ?k28); (case' h28 => wtm_at "st"))
  | ((with_reducible refine' g_listL ?h29 ?k29); (case' h29 => wtm_at "sl"); (case' k29 => intro _ _ _ _ _))
  | ((with_reducible refine' g_tupleL ?h30 ?k30); (case' h30 => wtm_at "sl"); (case' k30 => intro _ _ _ _ _))
  | with_reducible refine' g_max ?_
  | with_reducible refine' g_min ?_
  | with_reducible refine' g_intB ?_
  | with_reducible refine' g_fld ?_
  | with_reducible refine' g_put ?_
  | with_reducible refine' g_dget ?_
  | with_reducible refine' g_isN ?_
  | with_reducible refine' g_notN ?_
  | with_reducible refine' g_ifE ?_
  | with_reducible refine' g_andV ?_
  | with_reducible refine' g_orV ?_
  | with_reducible refine' g_notV ?_
  | with_reducible refine' g_kIf ?_
  | with_reducible refine' g_chain ?_
  | with_reducible refine' g_kCh ?_
  | with_reducible refine' g_sub ?_
  | ((with_reducible refine' g_setI ?h92 ?e92 ?j92 ?k92); (case' h92 => wtm_at "hp"); (case' e92 => first | exact rfl | assumption); (case' j92 => wtm_at "ln"); (case' k92 => intro _ _ _))
  | ((with_reducible refine' g_setL ?h89 ?i89 ?k89); (case' h89 => wtm_at "hp"); (case' i89 => exact ixE rfl (by wtm_at "ln")); (case' k89 => intro _ _ _))
  | ((with_reducible refine' g_gtup ?h93 ?e93 ?k93); (case' h93 => wtm_at "st"); (case' e93 => exact rfl))
  | with_reducible refine' g_gcons ?_
  | with_reducible refine' g_gnil ?_
  | with_reducible refine' g_par ?_
  | with_reducible refine' g_kPar ?_
  | with_reducible refine' g_meth ?_
  | with_reducible refine' g_bm ?_
  | with_reducible refine' g_bm0 ?_
  | with_reducible refine' g_raise ?_
  | with_reducible refine' g_for ?_
  | with_reducible refine' g_iR1 ?_
  | with_reducible refine' g_iR2 ?_
  | with_reducible refine' g_iL ?_
  | with_reducible refine' g_lc ?_
  | with_reducible refine' g_retN ?_
  | with_reducible refine' g_no (b := false) rfl ?_
  | with_reducible refine' g_yes (b := true) rfl ?_)
local macro_rules | `(tactic| wtm_at "go") => `(tactic| repeat (wtm_at "g1"))
local macro_rules | `(tactic| wtm_at "gs") => `(tactic| repeat ((fail_if_success (with_reducible refine' g_ifE ?_)); wtm_at "g1"))
local macro_rules | `(tactic| wtm_at "gi") => `(tactic| repeat ((fail_if_success (with_reducible refine' g_if ?_)); wtm_at "g1"))
local macro_rules | `(tactic| wtm_at "gr") => `(tactic| repeat ((fail_if_success (with_reducible refine' g_ret ?_)); wtm_at "g1"))
local macro_rules | `(tactic| wtm_at "gq") => `(tactic| repeat ((fail_if_success (with_reducible refine' g_asg ?_)); wtm_at "g1"))
theorem stand_le (cs : List Int) : stand cs ≤ 1 := by unfold stand; split <;> omega
theorem bank_len {cs : List Int} (h : cs.length = 20) : (bank cs).length = 10 := by
  have := stand_le cs
  unfold bank
  rw [List.length_take, List.length_drop]
  omega
theorem cut_bank {cs : List Int} (h : cs.length = 20) : cutV (cs.map V.int) (some ((stand cs : Int) * 10)) (some (((stand cs : Int) + 1) * 10)) = (bank cs).map V.int := by
  have hs := stand_le cs
  have e1 : ((stand cs : Int) * 10) = ((stand cs * 10 : Nat) : Int) := by omega
  have e2 : (((stand cs : Int) + 1) * 10) = (((stand cs + 1) * 10 : Nat) : Int) := by omega
  rw [e1, e2]
  unfold cutV bank
  rw [HT.sIx_nat, HT.sIx_nat, List.length_map, h, List.map_take, List.map_drop]
  congr 1
  · omega
  · congr 1
    omega
/-- the bank to be written, with some numbers changed -/
def news (cs : List Int) (chs : List (Nat × Int)) : List Int := chs.foldl (fun b c => b.set c.1 c.2) ((bank cs).set 1 (cl (bank cs) 1 + 1))
def other (cs : List Int) : Nat := (1 - stand cs) * 10
/-- the steps of writing the other bank -/
def stepsOf (cs : List Int) (chs : List (Nat × Int)) : List (Int × Int) :=
  ((other cs : Int), 0) :: ((List.range 9).map fun (k : Nat) => ((other cs : Int) + (1 + (k : Int)), cl (news cs chs) (k + 1))) ++ [((other cs : Int), 1)]
def chD (c : Nat × Int) : Int × Int := ((c.1 : Int), c.2)
def newsTo (cs : List Int) (chs : List (Nat × Int)) (i : Nat) : List Int := (chs.take i).foldl (fun b c => b.set c.1 c.2) ((bank cs).set 1 (cl (bank cs) 1 + 1))
theorem newsTo_succ {cs : List Int} {chs : List (Nat × Int)} {i : Nat} {c : Nat × Int} (h : chs[i]? = some c) : newsTo cs chs (i + 1) = (newsTo cs chs i).set c.1 c.2 := by
  unfold newsTo
  rw [List.take_add_one, h, List.foldl_append]
  rfl
theorem newsTo_len {cs : List Int} {chs : List (Nat × Int)} {i : Nat} (h : cs.length = 20) : (newsTo cs chs i).length = 10 := by
  have : ∀ (chs : List (Nat × Int)) (b : List Int), (chs.foldl (fun b c => b.set c.1 c.2) b).length = b.length := by
    intro chs
    induction chs with
    | nil => intro b; rfl
    | cons c r ih => intro b; rw [List.foldl_cons, ih, List.length_set]
  unfold newsTo
  rw [this, List.length_set, bank_len h]
theorem stepsOf_at {cs : List Int} {chs : List (Nat × Int)} {i : Nat} (h : i < 9) : (stepsOf cs chs).take (i + 1) ++ [((other cs : Int) + (1 + (i : Int)), cl (news cs chs) (1 + i))] = (stepsOf cs chs).take (i + 2) := by
  have : (stepsOf cs chs)[i + 1]? = some ((other cs : Int) + (1 + (i : Int)), cl (news cs chs) (i + 1)) := by
    unfold stepsOf
    rw [List.cons_append, List.getElem?_cons_succ, List.getElem?_append_left (by simp; omega)]
    simp [h]
  rw [Nat.add_comm 1 i, List.take_add_one (i := i + 1), this]
  rfl
theorem stepsOf_end {cs : List Int} {chs : List (Nat × Int)} : (stepsOf cs chs).take 10 ++ [((other cs : Int), 1)] = stepsOf cs chs := by
  rfl
theorem news_len {cs : List Int} {chs : List (Nat × Int)} (h : cs.length = 20) : (news cs chs).length = 10 := by
  have : ∀ (chs : List (Nat × Int)) (b : List Int), (chs.foldl (fun b c => b.set c.1 c.2) b).length = b.length := by
    intro chs
    induction chs with
    | nil => intro b; rfl
    | cons c r ih => intro b; rw [List.foldl_cons, ih, List.length_set]
  unfold news
  rw [this, List.length_set, bank_len h]
section
variable {P : Program} {w : World} {K : PySem.W.Frag} {mg : Str → Option Value} {base : Heap}
/-- bank_of -/
def spBankOf (T : Tx K mg) : Sp := fun vs H Q E => ∃ (a : Addr) (cs : List Int), vs = [.ref a] ∧ SqL K H a (cs.map V.int) ∧ cs.length ≤ 100000 ∧
  (Any cs → ∀ p H', H p = none → Mx [] H H' → H' p = some (.lst ((bank cs).map V.int)) → Q (.ref p) H') ∧ (¬ Any cs → ∀ H', Mx [] H H' → E (.ref T.E_NoBank) none H')
theorem c_bank_of (T : Tx K mg) : Cl P w K mg base 2 "bank_of" (spBankOf T) [] := by
  refine T.f_bank_of.cl sc_bank_of (fun vs H Q E h => ?_) (fun cdv A outer s H vs Q E hr h => ?_)
  · obtain ⟨a, cs, rfl, _⟩ := h
    rfl
  · obtain ⟨a, cs, rfl, hS, hl, k1, k2⟩ := h
    refine ⟨_, (pss_cons (ps_set (i := 1) sc_bank_of.nd rfl (Or.inl rfl) (q_call (c_standing T) hr (by decide) rfl (passes_call (takes_of rfl rfl rfl rfl) (fun _ _ _ _ h => h)) (pa_cons (pv 0) pa_nil)))
      (pss_one (ps_ret (pe_slice (slL K) (pv 0) (po_some (pe_op op_mulW (pv 1) (q_const T.g_WIDE rfl))) (po_some (pe_op op_mulW (pe_op op_add (pv 1) pe_int) (q_const T.g_WIDE rfl))))))), ?_⟩
    wtm_at "go"
    refine ⟨a, cs, rfl, hS, hl, fun hA H' m => ?_, fun hA H' m => k2 hA H' m⟩
    have hs := stand_le cs
    wtm_at "go"
    rw [cut_bank hA.1] at *
    exact k1 hA _ _ (by wtm_at "fr") (by wtm_at "mx") (by assumption)
/-- steps_to -/
def spStepsTo (T : Tx K mg) : Sp := fun vs H Q _ => ∃ (a b : Addr) (cs : List Int) (us : List V) (chs : List (Nat × Int)), vs = [.ref a, .ref b] ∧ SqL K H a (cs.map V.int) ∧ Any cs ∧ SqL K H b us ∧ DpAll K H us ((chs.map chD).map stD) ∧ (∀ c ∈ chs, c.1 < 10) ∧
  (∀ p H' ws, H p = none → Mx [] H H' → H' p = some (.lst ws) → DpAll K H' ws ((stepsOf cs chs).map stD) → Q (.ref p) H')
theorem c_steps_to (T : Tx K mg) : Cl P w K mg base 3 "steps_to" (spStepsTo T) [] := by
  refine T.f_steps_to.cl sc_steps_to (fun vs H Q E h => ?_) (fun cdv A outer s H vs Q E hr h => ?_)
  · obtain ⟨a, b, cs, us, chs, rfl, _⟩ := h
    rfl
  · obtain ⟨a, b, cs, us, chs, rfl, hS, hA, hB, hD, hc, k⟩ := h
    have hs := stand_le cs
    have hb := bank_len hA.1
    have hn := news_len (chs := chs) hA.1
    have hl := hA.1
    refine ⟨_, (pss_cons (ps_set (i := 2) sc_steps_to.nd rfl (Or.inl rfl) (pe_op op_mulW (pe_op op_sub pe_int (q_call (c_standing T) hr (by decide) rfl (passes_call (takes_of rfl rfl rfl rfl) (fun _ _ _ _ h => h)) (pa_cons (pv 0) pa_nil))) (q_const T.g_WIDE rfl)))
      (pss_cons (ps_set (i := 3) sc_steps_to.nd rfl (Or.inl rfl) (q_call (c_bank_of T) hr (by decide) rfl (passes_call (takes_of rfl rfl rfl rfl) (fun _ _ _ _ h => h)) (pa_cons (pv 0) pa_nil)))
      (pss_cons (ps_asg (pe_op op_add (pe_ix (ixL K) (pv 3) (q_const T.g_TURN rfl) (fun _ _ => rfl)) pe_int) (pg_sub (pv 3) (q_const T.g_TURN rfl) set_list))
      (pss_cons (ps_for (passes_of rfl) rfl (piL K (pv 1)) (pgT K 2 rfl (pgs_cons (pg_name (i := 4) sc_steps_to.nd rfl (Or.inl rfl)) (pgs_cons (pg_name (i := 5) sc_steps_to.nd rfl (Or.inl rfl)) pgs_nil)))
      (pss_one (ps_asg (pv 5) (pg_sub (pv 3) (pv 4) set_list))))
      (pss_cons (ps_set (i := 6) sc_steps_to.nd rfl (Or.inl rfl) (pe_lst (pa_cons (pe_tup (pa_cons (pv 2) (pa_cons pe_int pa_nil))) pa_nil)))
      (pss_cons (ps_for (passes_of rfl) rfl (pi_range2 rfl T.n_range (pa_cons pe_int (pa_cons (q_const T.g_WIDE rfl) pa_nil))) (pg_name (i := 4) sc_steps_to.nd rfl (Or.inl rfl))
      (pss_one (ps_expr (bmK K PySem.F.plainAttrs_list PySem.F.slot_list_append PySem.F.type_list_append mt_append (pv 6) (pa_cons (pe_tup (pa_cons (pe_op op_add (pv 2) (pv 4)) (pa_cons (pe_ix (ixL K) (pv 3) (pv 4) (fun _ _ => rfl)) pa_nil))) pa_nil)))))
      (pss_one (ps_ret (pe_op op_cat (pv 6) (pe_lst (pa_cons (pe_tup (pa_cons (pv 2) (pa_cons pe_int pa_nil))) pa_nil))))))))))), ?_⟩
    wtm_at "go"
    refine ⟨a, cs, rfl, hS, by omega, fun _ H1 m1 => ?_, fun z => absurd hA z⟩
    wtm_at "go"
    refine ⟨a, cs, rfl, by wtm_at "sl", by omega, fun _ bk H2 n2 m2 e2 => ?_, fun z => absurd hA z⟩
    wtm_at "go"
    rename_i H3 m3 e3
    have n3 : Mx [] H H3 := by wtm_at "mo"
    have eo : ((1 - (stand cs : Int)) * 10) = (other cs : Int) := by unfold other; omega
    have lu : us.length = chs.length := by have := hD.len; simpa using this
    rw [eo]
    refine g_forL (xs := us) (fun i σ' H' => ∃ x y, σ' = [some (.ref a), some (.ref b), some (.int (other cs)), some (.ref bk), x, y, none] ∧ Mx [] H H' ∧ H' bk = some (.lst ((newsTo cs chs i).map V.int)))
      ⟨none, none, rfl, n3, e3⟩ (fun i σ' H' _ hP => ?_) (fun i x σ' H' hx hP => ?_) (fun σ' H' hP => ?_)
    · obtain ⟨_, _, _, m, _⟩ := hP
      exact m.sqL0 hB
    · obtain ⟨x0, y0, rfl, m, e⟩ := hP
      obtain ⟨d, hd, hv⟩ := hD.get' hx
      rw [List.map_map, List.getElem?_map, Option.map_eq_some_iff] at hd
      obtain ⟨c, hc1, rfl⟩ := hd
      obtain ⟨t, rfl, ht⟩ := (hv.mx m).st
      have hc2 := hc c (List.mem_of_getElem? hc1)
      have hl2 := newsTo_len (chs := chs) (i := i) hA.1
      refine g_gtup ht rfl ?_
      wtm_at "go"
      rename_i H4 m4 e4
      refine ⟨_, _, rfl, by wtm_at "mo", ?_⟩
      rw [newsTo_succ hc1]
      exact e4
    · obtain ⟨x0, y0, rfl, m, e⟩ := hP
      have en : newsTo cs chs us.length = news cs chs := by unfold newsTo news; rw [lu, List.take_length]
      rw [en] at e
      wtm_at "go"
      rename_i tp H4 n4 m4 e4 l H5 n5 m5 e5
      refine g_forR (fun i σ' H' => ∃ x ws, σ' = [some (.ref a), some (.ref b), some (.int (other cs)), some (.ref bk), x, y0, some (.ref l)] ∧ Mx [] H H' ∧ H' bk = some (.lst ((news cs chs).map V.int)) ∧ H' l = some (.lst ws) ∧ DpAll K H' ws (((stepsOf cs chs).take (i + 1)).map stD))
        ⟨_, _, rfl, by wtm_at "mo", by wtm_at "hp", e5, .cons (.mkSt (by wtm_at "st")) .nil⟩ (fun i σ' H' hi hP => ?_) (fun σ' H' hP => ?_)
      · obtain ⟨x, ws, rfl, m, eb, el, dl⟩ := hP
        have ei : (1 + (i : Int)) = ((i + 1 : Nat) : Int) := by omega
        have hi2 : i < 9 := hi
        have lw := dl.len
        rw [List.length_map, List.length_take] at lw
        wtm_at "go"
        rename_i tq H6 n6 m6 e6 H7 m7 e7
        refine ⟨_, _, rfl, by wtm_at "mo", by wtm_at "hp", e7, ?_⟩
        rw [← stepsOf_at hi2, List.map_append]
        refine .app ?_ (.cons (.mkSt (by wtm_at "st")) .nil)
        exact m7.sts (noTup1 (m6.get0 el)) (dl.mx m6)
      · obtain ⟨x, ws, rfl, m, eb, el, dl⟩ := hP
        have lw := dl.len
        rw [List.length_map, List.length_take] at lw
        wtm_at "go"
        rename_i tq H6 n6 m6 e6 l2 H7 n7 m7 e7 l3 H8 n8 m8 e8
        refine k _ _ _ (by wtm_at "fr") (by wtm_at "mo") e8 ?_
        rw [← stepsOf_end, List.map_append]
        exact .app ((((dl.mx m6).mx m7).mx m8)) (.cons (.mkSt (by wtm_at "st")) .nil)
end
end Fk
namespace Fk
open PySem PySem.Spec PyProof.Rows L2
local macro_rules | `(tactic| wtm_at "ln") => `(tactic| first
  | omega
  | (simp only [List.length_cons, List.length_nil, List.length_map, List.length_append, List.length_replicate, List.length_take, List.length_drop, List.length_set]; omega)
  | (with_unfolding_all exact (by decide)))
local macro_rules | `(tactic| wtm_at "ar") => `(tactic| first
  | ((with_reducible show CMulW _ _); (refine' mulS ?_ ?_ <;> omega))
  | ((with_reducible show CDivW _ _); (refine' divS ?_ ?_ <;> omega))
  | ((with_reducible show CPow _ _); exact ⟨by decide, by decide, by decide⟩)
  | (show (0 : Int) < _; omega)
  | (with_unfolding_all exact (by decide)))
local macro_rules | `(tactic| wtm_at "at") => `(tactic| first
  | assumption
  | (refine' cl_atE ?e80 ?h80; (case' e80 => first | exact rfl | assumption); (case' h80 => wtm_at "ln"))
  | exact rfl)
local macro_rules | `(tactic| wtm_at "fr") => `(tactic| first
  | assumption
  | ((with_reducible refine' Mx.free0 ?m99 ?h99); (case' h99 => assumption); (case' m99 => wtm_at "mo")))
local macro_rules | `(tactic| wtm_at "hp") => `(tactic| first
  | assumption
  | ((with_reducible refine' Mx.get0 ?m1 ?h1); (case' m1 => assumption); (case' h1 => wtm_at "hp"))
  | ((with_reducible refine' Mx.get ?m2 ?n2 ?h2); (case' m2 => assumption); (case' n2 => wtm_at "nin"); (case' h2 => wtm_at "hp")))
local macro_rules | `(tactic| wtm_at "sl") => `(tactic| first
  | assumption
  | ((with_reducible refine' Mx.sqL0 ?m96 ?h96); (case' h96 => assumption); (case' m96 => wtm_at "mo"))
  | (refine' SqL.of ?h3; (case' h3 => wtm_at "hp"))
  | ((with_reducible refine' Mx.sqL0 ?m4 ?h4); (case' m4 => assumption); (case' h4 => wtm_at "sl"))
  | ((with_reducible refine' Mx.sqL ?m5 ?n5 ?h5); (case' m5 => assumption); (case' n5 => wtm_at "nin"); (case' h5 => wtm_at "sl")))
local macro_rules | `(tactic| wtm_at "st") => `(tactic| first
  | assumption
  | ((with_reducible refine' Mx.sqT0 ?m97 ?h97); (case' h97 => assumption); (case' m97 => wtm_at "mo"))
  | (refine' SqT.of ?h6; (case' h6 => wtm_at "hp"))
  | ((with_reducible refine' Mx.sqT0 ?m7 ?h7); (case' m7 => assumption); (case' h7 => wtm_at "st"))
  | ((with_reducible refine' Mx.sqT ?m8 ?n8 ?h8); (case' m8 => assumption); (case' n8 => wtm_at "nin"); (case' h8 => wtm_at "st")))
local macro_rules | `(tactic| wtm_at "mx") => `(tactic| first
  | assumption
  | exact Mx.refl
  | ((with_reducible refine' Mx.of0 ?h9); (case' h9 => assumption))
  | ((with_reducible refine' Mx.trans ?h10 ?m10); (case' m10 => first | assumption | ((with_reducible refine' Mx.of0 ?q10); (case' q10 => assumption))); (case' h10 => wtm_at "mx")))
local macro_rules | `(tactic| wtm_at "mo") => `(tactic| first
  | wtm_at "mx"
  | ((with_reducible refine' Mx.own ?m90 ?f90 ?k90); (case' k90 => assumption); (case' f90 => wtm_at "fr"); (case' m90 => wtm_at "mo"))
  | ((with_reducible refine' Mx.trans ?h91 ?m91); (case' m91 => first | assumption | ((with_reducible refine' Mx.of0 ?q91); (case' q91 => assumption))); (case' h91 => wtm_at "mo")))
local macro_rules | `(tactic| wtm_at "ne") => `(tactic| first
  | assumption
  | exact Ne.symm (by assumption)
  | ((with_reducible refine' ne_of_none ?x94 ?y94); (case' y94 => assumption); (case' x94 => wtm_at "hp"))
  | ((with_reducible refine' Ne.symm (ne_of_none ?x95 ?y95)); (case' y95 => assumption); (case' x95 => wtm_at "hp")))
local macro_rules | `(tactic| wtm_at "nin") => `(tactic| first
  | assumption
  | exact List.not_mem_nil
  | ((with_reducible refine' List.not_mem_cons_of_ne_of_not_mem ?h98 ?t98); (case' h98 => wtm_at "ne"); (case' t98 => wtm_at "nin")))
local macro_rules | `(tactic| wtm_at "g1") => `(tactic| first
  | ((with_reducible refine' g_var ?h11 ?k11); (case' h11 => exact rfl))
  | with_reducible refine' g_c ?_
  | with_reducible refine' g_op ?_
  | with_reducible refine' g_I0 ?_
  | ((with_reducible refine' g_I ?c12 ?k12); (case' c12 => wtm_at "ar"))
  | with_reducible refine' g_cons ?_
  | with_reducible refine' g_nil ?_
  | with_reducible refine' g_seq ?_
  | with_reducible refine' g_asg ?_
  | with_reducible refine' g_name ?_
  | with_reducible refine' g_ret ?_
  | with_reducible refine' g_if ?_
  | with_reducible refine' g_test ?_
  | with_reducible refine' g_tB ?_
  | with_reducible refine' g_bl ?_
  | ((with_reducible refine' g_eq ?h13 ?k13); (case' h13 => exact rfl))
  | ((with_reducible refine' g_ne ?h14 ?k14); (case' h14 => exact rfl))
  | with_reducible refine' g_CB ?_
  | with_reducible refine' g_call ?_
  | with_reducible refine' g_drop ?_
  | with_reducible refine' g_next ?_
  | with_reducible refine' g_not ?_
  | with_reducible refine' g_and ?_
  | with_reducible refine' g_or ?_
  | with_reducible refine' g_un ?_
  | with_reducible refine' g_U ?_
  | with_reducible refine' g_tup ?_
  | with_reducible refine' g_lst ?_
  | ((with_reducible refine' g_kNew ?h15 ?k15); (case' h15 => wtm_at "ln"); (case' k15 => intro _ _ _ _ _))
  | ((with_reducible refine' g_ixL ?h16 ?a16 ?k16); (case' h16 => wtm_at "sl"); (case' a16 => wtm_at "at"))
  | ((with_reducible refine' g_ixT ?h17 ?a17 ?k17); (case' h17 => wtm_at "st"); (case' a17 => wtm_at "at"))
  | with_reducible refine' g_slice ?_
  | with_reducible refine' g_part ?_
  | with_reducible refine' g_kPart ?_
  | with_reducible refine' g_noPart ?_
  | ((with_reducible refine' g_slL ?h18 ?k18); (case' h18 => wtm_at "sl"); (case' k18 => intro _ _ _ _ _))
  | ((with_reducible refine' g_cat ?h119 ?h219 ?l19 ?k19); (case' h119 => wtm_at "hp"); (case' h219 => wtm_at "hp"); (case' l19 => wtm_at "ln"); (case' k19 => intro _ _ _ _ _))
  | ((with_reducible refine' g_rep ?h120 ?h220 ?h320 ?l20 ?k20); (case' h120 => wtm_at "hp"); (case' h220 => wtm_at "ln"); (case' h320 => wtm_at "ln"); (case' l20 => wtm_at "ln"); (case' k20 => intro _ _ _ _ _))
  | ((with_reducible refine' g_append ?h21 ?l21 ?k21); (case' h21 => wtm_at "hp"); (case' l21 => wtm_at "ln"); (case' k21 => intro _ _ _))
  | ((with_reducible refine' g_kBM ?h22 ?k22); (case' h22 => wtm_at "sl"))
  | ((with_reducible refine' g_kBM0 ?h23 ?k23); (case' h23 => wtm_at "sl"))
  | ((with_reducible refine' g_kL ?h24 ?k24); (case' h24 => wtm_at "sl"))
  | ((with_reducible refine' g_kR1 ?h125 ?h225 ?k25); (case' h125 => wtm_at "ln"); (case' h225 => wtm_at "ln"))
  | ((with_reducible refine' g_kR2 ?h126 ?h226 ?h326 ?h426 ?k26); (case' h126 => wtm_at "ln"); (case' h226 => wtm_at "ln"); (case' h326 => wtm_at "ln"); (case' h426 => wtm_at "ln"))
  | ((with_reducible refine' g_lenL ?h27 ?k27); (case' h27 => wtm_at "sl"))
  | ((with_reducible refine' g_lenT ?h28 ?k28); (case' h28 => wtm_at "st"))
  | ((with_reducible refine' g_listL ?h29 ?k29); (case' h29 => wtm_at "sl"); (case' k29 => intro _ _ _ _ _))
  | ((with_reducible refine' g_tupleL ?h30 ?k30); (case' h30 => wtm_at "sl"); (case' k30 => intro _ _ _ _ _))
  | with_reducible refine' g_max ?_
  | with_reducible refine' g_min ?_
  | with_reducible refine' g_intB ?_
  | with_reducible refine' g_fld ?_
  | with_reducible refine' g_put ?_
  | with_reducible refine' g_dget ?_
  | with_reducible refine' g_isN ?_
  | with_reducible refine' g_notN ?_
  | with_reducible refine' g_ifE ?_
  | with_reducible refine' g_andV ?_
  | with_reducible refine' g_orV ?_
  | with_reducible refine' g_notV ?_
  | with_reducible refine' g_kIf ?_
  | with_reducible refine' g_chain ?_
  | with_reducible refine' g_kCh ?_
  | with_reducible refine' g_sub ?_
  | ((with_reducible refine' g_setI ?h92 ?e92 ?j92 ?k92); (case' h92 => wtm_at "hp"); (case' e92 => first | exact rfl | assumption); (case' j92 => wtm_at "ln"); (case' k92 => intro _ _ _))
  | ((with_reducible refine' g_setL ?h89 ?i89 ?k89); (case' h89 => wtm_at "hp"); (case' i89 => exact ixE rfl (by wtm_at "ln")); (case' k89 => intro _ _ _))
  | ((with_reducible refine' g_gtup ?h93 ?e93 ?k93); (case' h93 => wtm_at "st"); (case' e93 => exact rfl))
  | with_reducible refine' g_gcons ?_
  | with_reducible refine' g_gnil ?_
  | with_reducible refine' g_par ?_
  | with_reducible refine' g_kPar ?_
  | with_reducible refine' g_meth ?_
  | with_reducible refine' g_bm ?_
  | with_reducible refine' g_bm0 ?_
  | with_reducible refine' g_raise ?_
  | with_reducible refine' g_for ?_
  | with_reducible refine' g_iR1 ?_
  | with_reducible refine' g_iR2 ?_
  | with_reducible refine' g_iL ?_
  | with_reducible refine' g_lc ?_
  | with_reducible refine' g_retN ?_
  | with_reducible refine' g_no (b := false) rfl ?_
  | with_reducible refine' g_yes (b := true) rfl ?_)
local macro_rules | `(tactic| wtm_at "go") => `(tactic| repeat (wtm_at "g1"))
local macro_rules | `(tactic| wtm_at "gs") => `(tactic| repeat ((fail_if_success (with_reducible refine' g_ifE ?_)); wtm_at "g1"))
local macro_rules | `(tactic| wtm_at "gi") => `(tactic| repeat ((fail_if_success (with_reducible refine' g_if ?_)); wtm_at "g1"))
local macro_rules | `(tactic| wtm_at "gr") => `(tactic| repeat ((fail_if_success (with_reducible refine' g_ret ?_)); wtm_at "g1"))
local macro_rules | `(tactic| wtm_at "gq") => `(tactic| repeat ((fail_if_success (with_reducible refine' g_asg ?_)); wtm_at "g1"))
/-! ### codes -/
abbrev Bd (x : Int) : Prop := x.natAbs < 2 ^ 300
def sgn (k m c a kd : Int) : Int := (k + 1) * (17 * m + 31 * c + 53 * a + kd) % 999983
def amt (a : Int) : Bool := decide (1 ≤ a) && decide (a ≤ 99999)
theorem amt_iff {a : Int} : amt a = true ↔ 1 ≤ a ∧ a ≤ 99999 := by simp [amt]
theorem amt_no {a : Int} : amt a = false ↔ ¬ (1 ≤ a ∧ a ≤ 99999) := by simp [amt]
/-- a code: meter, count, amount, sign -/
structure Cd where
  m : Int
  c : Int
  a : Int
  s : Int
  deriving DecidableEq
def Cd.vs (z : Cd) : List V := [.int z.m, .int z.c, .int z.a, .int z.s]
def cdD (z : Cd) : PyData := .tuple [.int z.m, .int z.c, .int z.a, .int z.s]
def mkCd (k m c a kd : Int) : Cd := ⟨m, c, a, sgn k m c a kd⟩
def good (k : Int) (z : Cd) (m c kd : Int) : Bool := decide (z.m = m) && decide (z.c = c) && amt z.a && decide (z.s = sgn k m c z.a kd)
section
variable {P : Program} {w : World} {K : PySem.W.Frag} {mg : Str → Option Value} {base : Heap}
def spSignOf : Sp := fun vs H Q _ => ∃ k m c a kd : Int, vs = [.int k, .int m, .int c, .int a, .int kd] ∧ Bd k ∧ Bd m ∧ Bd c ∧ Bd a ∧ Bd kd ∧ Q (.int (sgn k m c a kd)) H
theorem c_sign_of (T : Tx K mg) : Cl P w K mg base 1 "sign_of" spSignOf [] := by
  refine T.f_sign_of.cl sc_sign_of (fun vs H Q E h => ?_) (fun cdv A outer s H vs Q E hr h => ?_)
  · obtain ⟨_, _, _, _, _, rfl, _⟩ := h
    rfl
  · obtain ⟨k, m, c, a, kd, rfl, b1, b2, b3, b4, b5, q⟩ := h
    refine ⟨_, (pss_one (ps_ret (pe_op op_mod (pe_op op_mulW (pe_op op_add (pv 0) pe_int) (pe_op op_add (pe_op op_add (pe_op op_add (pe_op op_mulW pe_int (pv 1)) (pe_op op_mulW pe_int (pv 2))) (pe_op op_mulW pe_int (pv 3))) (pv 4))) (q_const T.g_WHEEL rfl)))), ?_⟩
    wtm_at "go"
    exact q
def spCodeOf : Sp := fun vs H Q _ => ∃ k m c a kd : Int, vs = [.int k, .int m, .int c, .int a, .int kd] ∧ Bd k ∧ Bd m ∧ Bd c ∧ Bd a ∧ Bd kd ∧
  ∀ p H', H p = none → Mx [] H H' → H' p = some (.tup (mkCd k m c a kd).vs) → Q (.ref p) H'
theorem c_code_of (T : Tx K mg) : Cl P w K mg base 2 "code_of" spCodeOf [] := by
  refine T.f_code_of.cl sc_code_of (fun vs H Q E h => ?_) (fun cdv A outer s H vs Q E hr h => ?_)
  · obtain ⟨_, _, _, _, _, rfl, _⟩ := h
    rfl
  · obtain ⟨k, m, c, a, kd, rfl, b1, b2, b3, b4, b5, q⟩ := h
    refine ⟨_, (pss_one (ps_ret (pe_tup (pa_cons (pv 1) (pa_cons (pv 2) (pa_cons (pv 3) (pa_cons (q_call (c_sign_of T) hr (by decide) rfl (passes_call (takes_of rfl rfl rfl rfl) (fun _ _ _ _ h => h)) (pa_cons (pv 0) (pa_cons (pv 1) (pa_cons (pv 2) (pa_cons (pv 3) (pa_cons (pv 4) pa_nil)))))) pa_nil))))))), ?_⟩
    wtm_at "go"
    refine ⟨k, m, c, a, kd, rfl, b1, b2, b3, b4, b5, ?_⟩
    wtm_at "go"
    exact q _ _ (by assumption) (by assumption) (by assumption)
def spIsAmount : Sp := fun vs H Q _ => ∃ a : Int, vs = [.int a] ∧ Q (.bl (amt a)) H
theorem c_is_amount (T : Tx K mg) : Cl P w K mg base 1 "is_amount" spIsAmount [] := by
  refine T.f_is_amount.cl sc_is_amount (fun vs H Q E h => ?_) (fun cdv A outer s H vs Q E hr h => ?_)
  · obtain ⟨_, rfl, _⟩ := h
    rfl
  · obtain ⟨a, rfl, q⟩ := h
    refine ⟨_, (pss_one (ps_ret (pe_chain op_le op_le pe_int (pv 0) (q_const T.g_MOST_AMOUNT rfl)))), ?_⟩
    unfold amt at q
    wtm_at "go"
    refine g_ite (fun e => ?_) (fun e => ?_)
    · rw [e] at q
      wtm_at "go"
      exact q
    · rw [e] at q
      exact q
def spNeedAmount (T : Tx K mg) : Sp := fun vs H Q E => ∃ a : Int, vs = [.int a] ∧ (amt a = true → Q .non H) ∧ (amt a = false → E (.ref T.E_BadAmount) none H)
theorem c_need_amount (T : Tx K mg) : Cl P w K mg base 2 "need_amount" (spNeedAmount T) [] := by
  refine T.f_need_amount.cl sc_need_amount (fun vs H Q E h => ?_) (fun cdv A outer s H vs Q E hr h => ?_)
  · obtain ⟨_, rfl, _⟩ := h
    rfl
  · obtain ⟨a, rfl, q1, q2⟩ := h
    refine ⟨_, (pss_one (ps_if (pt_not (pt_val (q_call (c_is_amount T) hr (by decide) rfl (passes_call (takes_of rfl rfl rfl rfl) (fun _ _ _ _ h => h)) (pa_cons (pv 0) pa_nil)))) (pss_one (q_raise rfl (takes_of rfl rfl rfl rfl) T.x_BadAmount rfl)) pss_nil)), ?_⟩
    wtm_at "go"
    refine ⟨a, rfl, ?_⟩
    wtm_at "go"
    refine g_ite (fun e => ?_) (fun e => ?_)
    · wtm_at "go"
      exact q2 (by simpa using e)
    · wtm_at "go"
      exact q1 (by simpa using e)
def spIsGood : Sp := fun vs H Q _ => ∃ (k : Int) (t : Addr) (z : Cd) (m c kd : Int), vs = [.int k, .ref t, .int m, .int c, .int kd] ∧ H t = some (.tup z.vs) ∧ Bd k ∧ Bd m ∧ Bd c ∧ Bd kd ∧ Q (.bl (good k z m c kd)) H
theorem c_is_good (T : Tx K mg) : Cl P w K mg base 2 "is_good" spIsGood [] := by
  refine T.f_is_good.cl sc_is_good (fun vs H Q E h => ?_) (fun cdv A outer s H vs Q E hr h => ?_)
  · obtain ⟨_, _, _, _, _, _, rfl, _⟩ := h
    rfl
  · obtain ⟨k, t, z, m, c, kd, rfl, ht, b1, b2, b3, b4, q⟩ := h
    obtain ⟨zm, zc, za, zs⟩ := z
    simp only [Cd.vs] at ht
    unfold good at q
    refine ⟨_, (pss_cons (ps_if (PW.pt (pw_or (pt_cmpR op_ne (pe_ix (ixT K) (pv 1) pe_int (fun _ _ => rfl)) (pv 2) (by first | exact nomark _ | rfl)) (pw_or (pt_cmpR op_ne (pe_ix (ixT K) (pv 1) pe_int (fun _ _ => rfl)) (pv 3) (by first | exact nomark _ | rfl)) (pw_or1 (pt_not (pt_val (q_call (c_is_amount T) hr (by decide) rfl (passes_call (takes_of rfl rfl rfl rfl) (fun _ _ _ _ h => h)) (pa_cons (pe_ix (ixT K) (pv 1) pe_int (fun _ _ => rfl)) pa_nil)))))))) (pss_one (ps_ret pe_bl)) pss_nil)
      (pss_one (ps_ret (pe_cmpR op_eq (pe_ix (ixT K) (pv 1) pe_int (fun _ _ => rfl)) (q_call (c_sign_of T) hr (by decide) rfl (passes_call (takes_of rfl rfl rfl rfl) (fun _ _ _ _ h => h)) (pa_cons (pv 0) (pa_cons (pv 2) (pa_cons (pv 3) (pa_cons (pe_ix (ixT K) (pv 1) pe_int (fun _ _ => rfl)) (pa_cons (pv 4) pa_nil)))))) (by first | exact nomark _ | rfl))))), ?_⟩
    wtm_at "go"
    refine g_ite (fun e => ?_) (fun e => ?_)
    · have e1 : decide (zm = m) = false := by simpa using e
      simp only [e1, Bool.false_and] at q
      wtm_at "go"
      exact q
    · have e1 : decide (zm = m) = true := by simpa using e
      simp only [e1, Bool.true_and] at q
      wtm_at "go"
      refine g_ite (fun e => ?_) (fun e => ?_)
      · have e2 : decide (zc = c) = false := by simpa using e
        simp only [e2, Bool.false_and] at q
        wtm_at "go"
        exact q
      · have e2 : decide (zc = c) = true := by simpa using e
        simp only [e2, Bool.true_and] at q
        wtm_at "go"
        refine ⟨za, rfl, ?_⟩
        wtm_at "go"
        refine g_ite (fun e => ?_) (fun e => ?_)
        · have e3 : amt za = false := by simpa using e
          simp only [e3, Bool.false_and] at q
          wtm_at "go"
          exact q
        · have e3 : amt za = true := by simpa using e
          simp only [e3, Bool.true_and] at q
          have := amt_iff.mp e3
          wtm_at "go"
          refine ⟨k, m, c, za, kd, rfl, b1, b2, b3, (by omega), b4, ?_⟩
          wtm_at "go"
          simpa using q
end
end Fk
namespace Fk
open PySem PySem.Spec PyProof.Rows L2
local macro_rules | `(tactic| wtm_at "ln") => `(tactic| first
  | omega
  | (simp only [List.length_cons, List.length_nil, List.length_map, List.length_append, List.length_replicate, List.length_take, List.length_drop, List.length_set]; omega)
  | (with_unfolding_all exact (by decide)))
local macro_rules | `(tactic| wtm_at "ar") => `(tactic| first
  | ((with_reducible show CMulW _ _); (refine' mulS ?_ ?_ <;> omega))
  | ((with_reducible show CDivW _ _); (refine' divS ?_ ?_ <;> omega))
  | ((with_reducible show CPow _ _); exact ⟨by decide, by decide, by decide⟩)
  | (show (0 : Int) < _; omega)
  | (with_unfolding_all exact (by decide)))
local macro_rules | `(tactic| wtm_at "at") => `(tactic| first
  | assumption
  | (refine' cl_atE ?e80 ?h80; (case' e80 => first | exact rfl | assumption); (case' h80 => wtm_at "ln"))
  | exact rfl)
local macro_rules | `(tactic| wtm_at "fr") => `(tactic| first
  | assumption
  | ((with_reducible refine' Mx.free0 ?m99 ?h99); (case' h99 => assumption); (case' m99 => wtm_at "mo")))
local macro_rules | `(tactic| wtm_at "hp") => `(tactic| first
  | assumption
  | ((with_reducible refine' Mx.get0 ?m1 ?h1); (case' m1 => assumption); (case' h1 => wtm_at "hp"))
  | ((with_reducible refine' Mx.get ?m2 ?n2 ?h2); (case' m2 => assumption); (case' n2 => wtm_at "nin"); (case' h2 => wtm_at "hp")))
local macro_rules | `(tactic| wtm_at "sl") => `(tactic| first
  | assumption
  | ((with_reducible refine' Mx.sqL0 ?m96 ?h96); (case' h96 => assumption); (case' m96 => wtm_at "mo"))
  | (refine' SqL.of ?h3; (case' h3 => wtm_at "hp"))
  | ((with_reducible refine' Mx.sqL0 ?m4 ?h4); (case' m4 => assumption); (case' h4 => wtm_at "sl"))
  | ((with_reducible refine' Mx.sqL ?m5 ?n5 ?h5); (case' m5 => assumption); (case' n5 => wtm_at "nin"); (case' h5 => wtm_at "sl")))
local macro_rules | `(tactic| wtm_at "st") => `(tactic| first
  | assumption
  | ((with_reducible refine' Mx.sqT0 ?m97 ?h97); (case' h97 => assumption); (case' m97 => wtm_at "mo"))
  | (refine' SqT.of ?h6; (case' h6 => wtm_at "hp"))
  | ((with_reducible refine' Mx.sqT0 ?m7 ?h7); (case' m7 => assumption); (case' h7 => wtm_at "st"))
  | ((with_reducible refine' Mx.sqT ?m8 ?n8 ?h8); (case' m8 => assumption); (case' n8 => wtm_at "nin"); (case' h8 => wtm_at "st")))
local macro_rules | `(tactic| wtm_at "mx") => `(tactic| first
  | assumption
  | exact Mx.refl
  | ((with_reducible refine' Mx.of0 ?h9); (case' h9 => assumption))
  | ((with_reducible refine' Mx.trans ?h10 ?m10); (case' m10 => first | assumption | ((with_reducible refine' Mx.of0 ?q10); (case' q10 => assumption))); (case' h10 => wtm_at "mx")))
local macro_rules | `(tactic| wtm_at "mo") => `(tactic| first
  | wtm_at "mx"
  | ((with_reducible refine' Mx.own ?m90 ?f90 ?k90); (case' k90 => assumption); (case' f90 => wtm_at "fr"); (case' m90 => wtm_at "mo"))
  | ((with_reducible refine' Mx.trans ?h91 ?m91); (case' m91 => first | assumption | ((with_reducible refine' Mx.of0 ?q91); (case' q91 => assumption))); (case' h91 => wtm_at "mo")))
local macro_rules | `(tactic| wtm_at "ne") => `(tactic| first
  | assumption
  | exact Ne.symm (by assumption)
  | ((with_reducible refine' ne_of_none ?x94 ?y94); (case' y94 => assumption); (case' x94 => wtm_at "hp"))
  | ((with_reducible refine' Ne.symm (ne_of_none ?x95 ?y95)); (case' y95 => assumption); (case' x95 => wtm_at "hp")))
local macro_rules | `(tactic| wtm_at "nin") => `(tactic| first
  | assumption
  | exact List.not_mem_nil
  | ((with_reducible refine' List.not_mem_cons_of_ne_of_not_mem ?h98 ?t98); (case' h98 => wtm_at "ne"); (case' t98 => wtm_at "nin")))
local macro_rules | `(tactic| wtm_at "g1") => `(tactic| first
  | ((with_reducible refine' g_var ?h11 ?k11); (case' h11 => exact rfl))
  | with_reducible refine' g_c ?_
  | with_reducible refine' g_op ?_
  | with_reducible refine' g_I0 ?_
  | ((with_reducible refine' g_I ?c12 ?k12); (case' c12 => wtm_at "ar"))
  | with_reducible refine' g_cons ?_
  | with_reducible refine' g_nil ?_
  | with_reducible refine' g_seq ?_
  | with_reducible refine' g_asg ?_
  | with_reducible refine' g_name ?_
  | with_reducible refine' g_ret ?_
  | with_reducible refine' g_if ?_
  | with_reducible refine' g_test ?_
  | with_reducible refine' g_tB ?_
  | with_reducible refine' g_bl ?_
  | ((with_reducible refine' g_eq ?h13 ?k13); (case' h13 => exact rfl))
  | ((with_reducible refine' g_ne ?h14 ?k14); (case' h14 => exact rfl))
  | with_reducible refine' g_CB ?_
  | with_reducible refine' g_call ?_
  | with_reducible refine' g_drop ?_
  | with_reducible refine' g_next ?_
  | with_reducible refine' g_not ?_
  | with_reducible refine' g_and ?_
  | with_reducible refine' g_or ?_
  | with_reducible refine' g_un ?_
  | with_reducible refine' g_U ?_
  | with_reducible refine' g_tup ?_
  | with_reducible refine' g_lst ?_
  | ((with_reducible refine' g_kNew ?h15 ?k15); (case' h15 => wtm_at "ln"); (case' k15 => intro _ _ _ _ _))
  | ((with_reducible refine' g_ixL ?h16 ?a16 ?k16); (case' h16 => wtm_at "sl"); (case' a16 => wtm_at "at"))
  | ((with_reducible refine' g_ixT ?h17 ?a17 ?k17); (case' h17 => wtm_at "st"); (case' a17 => wtm_at "at"))
  | with_reducible refine' g_slice ?_
  | with_reducible refine' g_part ?_
  | with_reducible refine' g_kPart ?_
  | with_reducible refine' g_noPart ?_
  | ((with_reducible refine' g_slL ?h18 ?k18); (case' h18 => wtm_at "sl"); (case' k18 => intro _ _ _ _ _))
  | ((with_reducible refine' g_cat ?h119 ?h219 ?l19 ?k19); (case' h119 => wtm_at "hp"); (case' h219 => wtm_at "hp"); (case' l19 => wtm_at "ln"); (case' k19 => intro _ _ _ _ _))
  | ((with_reducible refine' g_rep ?h120 ?h220 ?h320 ?l20 ?k20); (case' h120 => wtm_at "hp"); (case' h220 => wtm_at "ln"); (case' h320 => wtm_at "ln"); (case' l20 => wtm_at "ln"); (case' k20 => intro _ _ _ _ _))
  | ((with_reducible refine' g_append ?h21 ?l21 ?k21); (case' h21 => wtm_at "hp"); (case' l21 => wtm_at "ln"); (case' k21 => intro _ _ _))
  | ((with_reducible refine' g_kBM ?h22 ?k22); (case' h22 => wtm_at "sl"))
  | ((with_reducible refine' g_kBM0 ?h23 ?k23); (case' h23 => wtm_at "sl"))
  | ((with_reducible refine' g_kL ?h24 ?k24); (case' h24 => wtm_at "sl"))
  | ((with_reducible refine' g_kR1 ?h125 ?h225 ?k25); (case' h125 => wtm_at "ln"); (case' h225 => wtm_at "ln"))
  | ((with_reducible refine' g_kR2 ?h126 ?h226 ?h326 ?h426 ?k26); (case' h126 => wtm_at "ln"); (case' h226 => wtm_at "ln"); (case' h326 => wtm_at "ln"); (case' h426 => wtm_at "ln"))
  | ((with_reducible refine' g_lenL ?h27 ?k27); (case' h27 => wtm_at "sl"))
  | ((with_reducible refine' g_lenT ?h28 ?k28); (case' h28 => wtm_at "st"))
  | ((with_reducible refine' g_listL ?h29 ?k29); (case' h29 => wtm_at "sl"); (case' k29 => intro _ _ _ _ _))
  | ((with_reducible refine' g_tupleL ?h30 ?k30); (case' h30 => wtm_at "sl"); (case' k30 => intro _ _ _ _ _))
  | with_reducible refine' g_max ?_
  | with_reducible refine' g_min ?_
  | with_reducible refine' g_intB ?_
  | with_reducible refine' g_fld ?_
  | with_reducible refine' g_put ?_
  | with_reducible refine' g_dget ?_
  | with_reducible refine' g_isN ?_
  | with_reducible refine' g_notN ?_
  | with_reducible refine' g_ifE ?_
  | with_reducible refine' g_andV ?_
  | with_reducible refine' g_orV ?_
  | with_reducible refine' g_notV ?_
  | with_reducible refine' g_kIf ?_
  | with_reducible refine' g_chain ?_
  | with_reducible refine' g_kCh ?_
  | with_reducible refine' g_sub ?_
  | ((with_reducible refine' g_setI ?h92 ?e92 ?j92 ?k92); (case' h92 => wtm_at "hp"); (case' e92 => first | exact rfl | assumption); (case' j92 => wtm_at "ln"); (case' k92 => intro _ _ _))
  | ((with_reducible refine' g_setL ?h89 ?i89 ?k89); (case' h89 => wtm_at "hp"); (case' i89 => exact ixE rfl (by wtm_at "ln")); (case' k89 => intro _ _ _))
  | ((with_reducible refine' g_gtup ?h93 ?e93 ?k93); (case' h93 => wtm_at "st"); (case' e93 => exact rfl))
  | with_reducible refine' g_gcons ?_
  | with_reducible refine' g_gnil ?_
  | with_reducible refine' g_par ?_
  | with_reducible refine' g_kPar ?_
  | with_reducible refine' g_meth ?_
  | with_reducible refine' g_bm ?_
  | with_reducible refine' g_bm0 ?_
  | with_reducible refine' g_raise ?_
  | with_reducible refine' g_for ?_
  | with_reducible refine' g_iR1 ?_
  | with_reducible refine' g_iR2 ?_
  | with_reducible refine' g_iL ?_
  | with_reducible refine' g_lc ?_
  | with_reducible refine' g_retN ?_
  | with_reducible refine' g_no (b := false) rfl ?_
  | with_reducible refine' g_yes (b := true) rfl ?_)
local macro_rules | `(tactic| wtm_at "go") => `(tactic| repeat (wtm_at "g1"))
local macro_rules | `(tactic| wtm_at "gs") => `(tactic| repeat ((fail_if_success (with_reducible refine' g_ifE ?_)); wtm_at "g1"))
local macro_rules | `(tactic| wtm_at "gi") => `(tactic| repeat ((fail_if_success (with_reducible refine' g_if ?_)); wtm_at "g1"))
local macro_rules | `(tactic| wtm_at "gr") => `(tactic| repeat ((fail_if_success (with_reducible refine' g_ret ?_)); wtm_at "g1"))
local macro_rules | `(tactic| wtm_at "gq") => `(tactic| repeat ((fail_if_success (with_reducible refine' g_asg ?_)); wtm_at "g1"))
/-! ### meters -/
structure Mt where
  num : Int
  key : Int
  cells : List Int
  stamps : List (Int × Int)
  up : Bool
/-- the i-th number of the bank that stands -/
def bk (μ : Mt) (i : Nat) : Int := cl (bank μ.cells) i
def mFlds (μ : Mt) (pm pp : Addr) : List (Str × V) := [("own", .int μ.num), ("key", .int μ.key), ("memory", .ref pm), ("prints", .ref pp), ("awake", .bl μ.up)]
/-- the meter μ stands at p, its cells at pm, its stamps at pp -/
structure MetAt (K : PySem.W.Frag) (C : Addr) (H : Hp) (p pm pp : Addr) (μ : Mt) : Prop where
  ob : ∃ dx, H p = some (.ins C dx (mFlds μ pm pp))
  me : H pm = some (.lst (μ.cells.map V.int))
  pr : ∃ vs, H pp = some (.lst vs) ∧ DpAll K H vs (μ.stamps.map stD)
  ne : pm ≠ pp
theorem MetAt.mx {K : PySem.W.Frag} {C : Addr} {S : List Addr} {H H' : Hp} {p pm pp : Addr} {μ : Mt} (M : MetAt K C H p pm pp μ) (m : Mx S H H') (n : NoTup H S) (h1 : p ∉ S) (h2 : pm ∉ S) (h3 : pp ∉ S) : MetAt K C H' p pm pp μ := by
  obtain ⟨⟨dx, ob⟩, me, ⟨vs, pr, dp⟩, ne⟩ := M
  exact ⟨⟨dx, m _ _ ob h1⟩, m _ _ me h2, ⟨vs, m _ _ pr h3, m.sts n dp⟩, ne⟩
theorem noTup0 {H : Hp} : NoTup H [] := fun _ h => by simp at h
theorem MetAt.mx0 {K : PySem.W.Frag} {C : Addr} {H H' : Hp} {p pm pp : Addr} {μ : Mt} (M : MetAt K C H p pm pp μ) (m : Mx [] H H') : MetAt K C H' p pm pp μ := M.mx m noTup0 (by simp) (by simp) (by simp)
theorem MetAt.p_pm {K : PySem.W.Frag} {C : Addr} {H : Hp} {p pm pp : Addr} {μ : Mt} (M : MetAt K C H p pm pp μ) : p ≠ pm := by
  obtain ⟨⟨dx, ob⟩, me, _, _⟩ := M
  exact ne_of ob me fun z => nomatch z
theorem MetAt.p_pp {K : PySem.W.Frag} {C : Addr} {H : Hp} {p pm pp : Addr} {μ : Mt} (M : MetAt K C H p pm pp μ) : p ≠ pp := by
  obtain ⟨⟨dx, ob⟩, _, ⟨vs, pr, _⟩, _⟩ := M
  exact ne_of ob pr fun z => nomatch z
theorem noTupI {H : Hp} {p C dx : Addr} {fs : List (Str × V)} (h : H p = some (.ins C dx fs)) : NoTup H [p] := fun x hx u e => by
  simp at hx; subst hx; rw [h] at e; cases e; exact ⟨(fun _ z => nomatch z), (fun _ _ z => nomatch z)⟩
/-! what a def does to a meter -/
def lastNo (ss : List (Int × Int)) : Int := match ss.getLast? with
  | some s => s.1
  | none => 0
def owed (μ : Mt) : Option (Int × Int) := if lastNo μ.stamps < bk μ 8 then some (bk μ 8, bk μ 9) else none
def wr (cs : List Int) (st : List (Int × Int)) (k : Nat) : List Int := (st.take k).foldl (fun cs s => cs.set s.1.toNat s.2) cs
theorem wr_succ {cs : List Int} {st : List (Int × Int)} {i : Nat} {s : Int × Int} (h : st[i]? = some s) : wr cs st (i + 1) = (wr cs st i).set s.1.toNat s.2 := by
  unfold wr
  rw [List.take_add_one, h, List.foldl_append]
  rfl
theorem wr_len (cs : List Int) (st : List (Int × Int)) (k : Nat) : (wr cs st k).length = cs.length := by
  have : ∀ (st : List (Int × Int)) (b : List Int), (st.foldl (fun cs s => cs.set s.1.toNat s.2) b).length = b.length := by
    intro st
    induction st with
    | nil => intro b; rfl
    | cons c r ih => intro b; rw [List.foldl_cons, ih, List.length_set]
  exact this _ _
theorem stepsOf_len (cs : List Int) (chs : List (Nat × Int)) : (stepsOf cs chs).length = 11 := by simp [stepsOf]
theorem other_le (cs : List Int) : other cs ≤ 10 := by
  have := stand_le cs
  unfold other; omega
theorem stepsOf_ix {cs : List Int} {chs : List (Nat × Int)} {s : Int × Int} (h : s ∈ stepsOf cs chs) : ∃ j : Nat, s.1 = (j : Int) ∧ j < 20 := by
  have := other_le cs
  simp only [stepsOf, List.cons_append, List.mem_cons, List.mem_append, List.mem_map, List.mem_range, List.not_mem_nil, or_false] at h
  rcases h with h | ⟨k, hk, h⟩ | h
  · exact ⟨other cs, by rw [h], by omega⟩
  · exact ⟨other cs + (1 + k), by rw [← h]; simp, by omega⟩
  · exact ⟨other cs, by rw [h], by omega⟩
/-- a cut as it is handed in -/
def cutO : Option Nat → V
  | none => .non
  | some k => .int k
def leftV : Option (Option Nat) → V
  | none => .int (-1)
  | some c => cutO c
def writeM (μ : Mt) (chs : List (Nat × Int)) (cut : Option Nat) : Option (Option Nat) × Mt :=
  match cut with
  | some k => if k < 11 then (none, { μ with cells := wr μ.cells (stepsOf μ.cells chs) k, up := false }) else (some (some (k - 11)), { μ with cells := wr μ.cells (stepsOf μ.cells chs) 11 })
  | none => (some none, { μ with cells := wr μ.cells (stepsOf μ.cells chs) 11 })
def printM (μ : Mt) (cut : Option Nat) : Bool × Mt :=
  match owed μ with
  | none => (true, μ)
  | some s => if cut = some 0 then (false, { μ with up := false }) else (true, { μ with stamps := μ.stamps ++ [s] })
section
variable {P : Program} {w : World} {K : PySem.W.Frag} {mg : Str → Option Value} {base : Heap}
section
variable {σ : L2.St} {H : Hp} {Q : VK} {p pm pp dx : Addr} {μ : Mt} {N : Hp → Prop} {b : Bool}
theorem g_fOwn (T : Tx K mg) (h : H p = some (.ins T.C_Meter dx (mFlds μ pm pp))) (k : Q (.int μ.num) H) : kFld K "own" Q (.ref p) H := g_kFld h T.cls_Meter T.na_Meter_own rfl k
theorem g_fKey (T : Tx K mg) (h : H p = some (.ins T.C_Meter dx (mFlds μ pm pp))) (k : Q (.int μ.key) H) : kFld K "key" Q (.ref p) H := g_kFld h T.cls_Meter T.na_Meter_key rfl k
theorem g_fMem (T : Tx K mg) (h : H p = some (.ins T.C_Meter dx (mFlds μ pm pp))) (k : Q (.ref pm) H) : kFld K "memory" Q (.ref p) H := g_kFld h T.cls_Meter T.na_Meter_memory rfl k
theorem g_fPri (T : Tx K mg) (h : H p = some (.ins T.C_Meter dx (mFlds μ pm pp))) (k : Q (.ref pp) H) : kFld K "prints" Q (.ref p) H := g_kFld h T.cls_Meter T.na_Meter_prints rfl k
theorem g_fAwa (T : Tx K mg) (h : H p = some (.ins T.C_Meter dx (mFlds μ pm pp))) (k : Q (.bl μ.up) H) : kFld K "awake" Q (.ref p) H := g_kFld h T.cls_Meter T.na_Meter_awake rfl k
theorem g_pAwa (T : Tx K mg) (h : H p = some (.ins T.C_Meter dx (mFlds μ pm pp))) (k : ∀ H', Mx [p] H H' → H' p = some (.ins T.C_Meter dx (mFlds { μ with up := b } pm pp)) → N H') : kPut K "awake" (.bl b) N (.ref p) H :=
  g_kPut h T.cls_Meter T.na_Meter_awake rfl (by show 5 < 1000; decide) k
end
local macro_rules | `(tactic| wtm_at "g1") => `(tactic| first
  | ((with_reducible refine' g_fOwn (by assumption) ?h201 ?k201); (case' h201 => wtm_at "hp"))
  | ((with_reducible refine' g_fKey (by assumption) ?h202 ?k202); (case' h202 => wtm_at "hp"))
  | ((with_reducible refine' g_fMem (by assumption) ?h203 ?k203); (case' h203 => wtm_at "hp"))
  | ((with_reducible refine' g_fPri (by assumption) ?h204 ?k204); (case' h204 => wtm_at "hp"))
  | ((with_reducible refine' g_fAwa (by assumption) ?h205 ?k205); (case' h205 => wtm_at "hp"))
  | ((with_reducible refine' g_pAwa (by assumption) ?h206 ?k206); (case' h206 => wtm_at "hp"); (case' k206 => intro _ _ _))
  | ((with_reducible refine' g_kMeth ?h207 ?l207 ?k207); (case' h207 => wtm_at "hp"); (case' l207 => exact rfl)))

def spNeedKey (T : Tx K mg) : Sp := fun vs H Q E => ∃ a : Int, vs = [.int a] ∧ (0 ≤ a ∧ a ≤ 999981 → Q .non H) ∧ (¬ (0 ≤ a ∧ a ≤ 999981) → E (.ref T.E_BadNumber) none H)
theorem c_need_key (T : Tx K mg) : Cl P w K mg base 1 "need_key" (spNeedKey T) [] := by
  refine T.f_need_key.cl sc_need_key (fun vs H Q E h => ?_) (fun cdv A outer s H vs Q E hr h => ?_)
  · obtain ⟨_, rfl, _⟩ := h
    rfl
  · obtain ⟨a, rfl, q1, q2⟩ := h
    refine ⟨_, (pss_one (ps_if (pt_not (pt_chain op_le op_le pe_int (pv 0) (q_const T.g_MOST_KEY rfl))) (pss_one (q_raise rfl (takes_of rfl rfl rfl rfl) T.x_BadNumber rfl)) pss_nil)), ?_⟩
    wtm_at "go"
    refine g_ite (fun e => ?_) (fun e => ?_)
    · wtm_at "go"
      refine g_ite (fun e2 => ?_) (fun e2 => ?_)
      · wtm_at "go"
        simp at e e2
        exact q2 (by omega)
      · wtm_at "go"
        simp at e e2
        exact q1 (by omega)
    · wtm_at "go"
      simp at e
      exact q2 (by omega)
def spNeedNumber (T : Tx K mg) : Sp := fun vs H Q E => ∃ a : Int, vs = [.int a] ∧ (1 ≤ a ∧ a ≤ 9999 → Q .non H) ∧ (¬ (1 ≤ a ∧ a ≤ 9999) → E (.ref T.E_BadNumber) none H)
theorem c_need_number (T : Tx K mg) : Cl P w K mg base 1 "need_number" (spNeedNumber T) [] := by
  refine T.f_need_number.cl sc_need_number (fun vs H Q E h => ?_) (fun cdv A outer s H vs Q E hr h => ?_)
  · obtain ⟨_, rfl, _⟩ := h
    rfl
  · obtain ⟨a, rfl, q1, q2⟩ := h
    refine ⟨_, (pss_one (ps_if (pt_not (pt_chain op_le op_le pe_int (pv 0) (q_const T.g_MOST_NUMBER rfl))) (pss_one (q_raise rfl (takes_of rfl rfl rfl rfl) T.x_BadNumber rfl)) pss_nil)), ?_⟩
    wtm_at "go"
    refine g_ite (fun e => ?_) (fun e => ?_)
    · wtm_at "go"
      refine g_ite (fun e2 => ?_) (fun e2 => ?_)
      · wtm_at "go"
        simp at e e2
        exact q2 (by omega)
      · wtm_at "go"
        simp at e e2
        exact q1 (by omega)
    · wtm_at "go"
      simp at e
      exact q2 (by omega)
/-- Meter(number, key): the new meter -/
def spInit (T : Tx K mg) : Sp := fun vs H Q E => ∃ (p dx : Addr) (n k : Int), vs = [.ref p, .int n, .int k] ∧ H p = some (.ins T.C_Meter dx []) ∧
  ((1 ≤ n ∧ n ≤ 9999) ∧ (0 ≤ k ∧ k ≤ 999981) → ∀ pm pp H', H pm = none → H pp = none → Mx [p] H H' → MetAt K T.C_Meter H' p pm pp ⟨n, k, 1 :: List.replicate 19 0, [], true⟩ → Q .non H') ∧
  (¬ ((1 ≤ n ∧ n ≤ 9999) ∧ (0 ≤ k ∧ k ≤ 999981)) → E (.ref T.E_BadNumber) none H)
theorem mt_Meter___init__ (T : Tx K mg) : Me P w K mg base 2 T.C_Meter "__init__" (spInit T) [] := by
  refine T.m_Meter___init__.me T.cls_Meter sc_Meter___init__ (fun vs H Q E h => ?_) (fun cdv A outer s H vs Q E hr h => ?_)
  · obtain ⟨_, _, _, _, rfl, _⟩ := h
    rfl
  · obtain ⟨p, dx, n, k, rfl, hp, q1, q2⟩ := h
    refine ⟨_, (pss_cons (ps_expr (q_call (c_need_number T) hr (by decide) rfl (passes_call (takes_of rfl rfl rfl rfl) (fun _ _ _ _ h => h)) (pa_cons (pv 1) pa_nil)))
      (pss_cons (ps_expr (q_call (c_need_key T) hr (by decide) rfl (passes_call (takes_of rfl rfl rfl rfl) (fun _ _ _ _ h => h)) (pa_cons (pv 2) pa_nil)))
      (pss_cons (psFld K (pv 0) (pv 1) rfl)
      (pss_cons (psFld K (pv 0) (pv 2) rfl)
      (pss_cons (psFld K (pv 0) (q_call0 (c_at_first T) hr (by decide) rfl (passes_call (takes_of rfl rfl rfl rfl) (fun _ _ _ _ h => h))) rfl)
      (pss_cons (psFld K (pv 0) (pe_lst pa_nil) rfl)
      (pss_one (psFld K (pv 0) pe_bl rfl)))))))), ?_⟩
    wtm_at "go"
    refine ⟨n, rfl, fun hn => ?_, fun hn => q2 fun z => hn z.1⟩
    wtm_at "go"
    refine ⟨k, rfl, fun hk => ?_, fun hk => q2 fun z => hk z.2⟩
    wtm_at "go"
    refine g_kPut hp T.cls_Meter T.na_Meter_own rfl (by decide) fun H1 m1 e1 => ?_
    wtm_at "go"
    refine g_kPut e1 T.cls_Meter T.na_Meter_key rfl (by show 1 < 1000; decide) fun H2 m2 e2 => ?_
    wtm_at "go"
    refine ⟨rfl, fun pm H3 n3 m3 e3 => ?_⟩
    wtm_at "go"
    refine g_kPut (m3.get0 e2) T.cls_Meter T.na_Meter_memory rfl (by show 2 < 1000; decide) fun H4 m4 e4 => ?_
    wtm_at "go"
    rename_i pp H5 n5 m5 e5
    refine g_kPut (m5.get0 e4) T.cls_Meter T.na_Meter_prints rfl (by show 3 < 1000; decide) fun H6 m6 e6 => ?_
    wtm_at "go"
    refine g_kPut e6 T.cls_Meter T.na_Meter_awake rfl (by show 4 < 1000; decide) fun H7 m7 e7 => ?_
    have c1 : Mx [p] H H2 := m1.trans m2
    have c2 : Mx [p] H H4 := (c1.trans m3.of0).trans m4
    have d1 : pm ≠ p := (ne_of_none e2 n3).symm
    have d2 : pp ≠ p := (ne_of_none e4 n5).symm
    have f1 : H4 pm = some (.lst ((1 :: List.replicate 19 0 : List Int).map V.int)) := m4 _ _ e3 (by simpa using d1)
    have d3 : pm ≠ pp := ne_of_none f1 n5
    refine q1 ⟨hn, hk⟩ pm pp H7 (c1.free n3 (by simpa using d1)) (c2.free n5 (by simpa using d2)) (((c2.trans m5.of0).trans m6).trans m7) ⟨⟨dx, e7⟩, ?_, ⟨[], ?_, .nil⟩, d3⟩
    · exact m7 _ _ (m6 _ _ (m5.get0 f1) (by simpa using d1)) (by simpa using d1)
    · exact m7 _ _ (m6 _ _ e5 (by simpa using d2)) (by simpa using d2)
theorem mk_Meter (T : Tx K mg) : Ma P w K mg base 2 "Meter" T.C_Meter (spInit T) [] := by
  obtain ⟨f, fd, ps, ds, _, m, F, b, d⟩ := (mt_Meter___init__ (P := P) (w := w) (base := base) T).ex
  exact ⟨f, fd, ps, ds, ⟨T.mk_Meter_, m.at_, m.fn, T.kc_Meter⟩, F, T.g_Meter, b, d⟩
/-- number, cells, stamps, is_up -/
def spNumber (T : Tx K mg) : Sp := fun vs H Q _ => ∃ (p pm pp : Addr) (μ : Mt), vs = [.ref p] ∧ MetAt K T.C_Meter H p pm pp μ ∧ Q (.int μ.num) H
def spIsUp (T : Tx K mg) : Sp := fun vs H Q _ => ∃ (p pm pp : Addr) (μ : Mt), vs = [.ref p] ∧ MetAt K T.C_Meter H p pm pp μ ∧ Q (.bl μ.up) H
theorem mt_Meter_is_up (T : Tx K mg) : Me P w K mg base 1 T.C_Meter "is_up" (spIsUp T) [] := by
  refine T.m_Meter_is_up.me T.cls_Meter sc_Meter_is_up (fun vs H Q E h => ?_) (fun cdv A outer s H vs Q E hr h => ?_)
  · obtain ⟨_, _, _, _, rfl, _⟩ := h
    rfl
  · obtain ⟨p, pm, pp, μ, rfl, ⟨⟨dx, ob⟩, me, pr, ne⟩, q⟩ := h
    refine ⟨_, (pss_one (ps_ret (fldK K (pv 0) rfl))), ?_⟩
    wtm_at "go"
    exact q
def spCells (T : Tx K mg) : Sp := fun vs H Q _ => ∃ (p pm pp : Addr) (μ : Mt), vs = [.ref p] ∧ MetAt K T.C_Meter H p pm pp μ ∧ ∀ l H', H l = none → Mx [] H H' → H' l = some (.lst (μ.cells.map V.int)) → Q (.ref l) H'
theorem mt_Meter_cells (T : Tx K mg) : Me P w K mg base 1 T.C_Meter "cells" (spCells T) [] := by
  refine T.m_Meter_cells.me T.cls_Meter sc_Meter_cells (fun vs H Q E h => ?_) (fun cdv A outer s H vs Q E hr h => ?_)
  · obtain ⟨_, _, _, _, rfl, _⟩ := h
    rfl
  · obtain ⟨p, pm, pp, μ, rfl, ⟨⟨dx, ob⟩, me, pr, ne⟩, q⟩ := h
    refine ⟨_, (pss_one (ps_ret (pe_callTy (cList K) (by rfl) T.n_list (by decide +kernel) (pa_cons (fldK K (pv 0) rfl) pa_nil)))), ?_⟩
    wtm_at "go"
    exact q _ _ (by assumption) (by assumption) (by assumption)
def spStamps (T : Tx K mg) : Sp := fun vs H Q _ => ∃ (p pm pp : Addr) (μ : Mt), vs = [.ref p] ∧ MetAt K T.C_Meter H p pm pp μ ∧ ∀ l ws H', H l = none → Mx [] H H' → H' l = some (.lst ws) → DpAll K H' ws (μ.stamps.map stD) → Q (.ref l) H'
theorem mt_Meter_stamps (T : Tx K mg) : Me P w K mg base 1 T.C_Meter "stamps" (spStamps T) [] := by
  refine T.m_Meter_stamps.me T.cls_Meter sc_Meter_stamps (fun vs H Q E h => ?_) (fun cdv A outer s H vs Q E hr h => ?_)
  · obtain ⟨_, _, _, _, rfl, _⟩ := h
    rfl
  · obtain ⟨p, pm, pp, μ, rfl, ⟨⟨dx, ob⟩, me, ⟨ws, pr, dp⟩, ne⟩, q⟩ := h
    refine ⟨_, (pss_one (ps_ret (pe_callTy (cList K) (by rfl) T.n_list (by decide +kernel) (pa_cons (fldK K (pv 0) rfl) pa_nil)))), ?_⟩
    wtm_at "go"
    rename_i l H1 n1 m1 e1
    exact q _ _ _ n1 m1 e1 (dp.mx m1)
/-- sums -/
def spSums (T : Tx K mg) : Sp := fun vs H Q _ => ∃ (p pm pp : Addr) (μ : Mt), vs = [.ref p] ∧ MetAt K T.C_Meter H p pm pp μ ∧ Any μ.cells ∧ ∀ l H', H l = none → Mx [] H H' → H' l = some (.tup [.int (bk μ 2), .int (bk μ 3), .int (bk μ 4)]) → Q (.ref l) H'
theorem mt_Meter_sums (T : Tx K mg) : Me P w K mg base 3 T.C_Meter "sums" (spSums T) [] := by
  refine T.m_Meter_sums.me T.cls_Meter sc_Meter_sums (fun vs H Q E h => ?_) (fun cdv A outer s H vs Q E hr h => ?_)
  · obtain ⟨_, _, _, _, rfl, _⟩ := h
    rfl
  · obtain ⟨p, pm, pp, μ, rfl, ⟨⟨dx, ob⟩, me, ⟨ws, pr, dp⟩, ne⟩, hA, q⟩ := h
    have hl := hA.1
    have hb := bank_len hl
    refine ⟨_, (pss_cons (ps_set (i := 1) sc_Meter_sums.nd rfl (Or.inl rfl) (q_call (c_bank_of T) hr (by decide) rfl (passes_call (takes_of rfl rfl rfl rfl) (fun _ _ _ _ h => h)) (pa_cons (fldK K (pv 0) rfl) pa_nil)))
      (pss_one (ps_ret (pe_tup (pa_cons (pe_ix (ixL K) (pv 1) (q_const T.g_RISING rfl) (fun _ _ => rfl)) (pa_cons (pe_ix (ixL K) (pv 1) (q_const T.g_FALLING rfl) (fun _ _ => rfl)) (pa_cons (pe_ix (ixL K) (pv 1) (q_const T.g_CREDIT rfl) (fun _ _ => rfl)) pa_nil))))))), ?_⟩
    wtm_at "go"
    refine ⟨pm, μ.cells, rfl, by wtm_at "sl", by omega, fun _ b H1 n1 m1 e1 => ?_, fun z => absurd hA z⟩
    wtm_at "go"
    exact q _ _ (by wtm_at "fr") (by wtm_at "mo") (by assumption)
def spNeedUp (T : Tx K mg) : Sp := fun vs H Q E => ∃ (p pm pp : Addr) (μ : Mt), vs = [.ref p] ∧ MetAt K T.C_Meter H p pm pp μ ∧ (μ.up = true → Q .non H) ∧ (μ.up = false → E (.ref T.E_Down) none H)
theorem mt_Meter_need_up (T : Tx K mg) : Me P w K mg base 1 T.C_Meter "need_up" (spNeedUp T) [] := by
  refine T.m_Meter_need_up.me T.cls_Meter sc_Meter_need_up (fun vs H Q E h => ?_) (fun cdv A outer s H vs Q E hr h => ?_)
  · obtain ⟨_, _, _, _, rfl, _⟩ := h
    rfl
  · obtain ⟨p, pm, pp, μ, rfl, ⟨⟨dx, ob⟩, me, pr, ne⟩, q1, q2⟩ := h
    refine ⟨_, (pss_one (ps_if (pt_not (pt_val (fldK K (pv 0) rfl))) (pss_one (q_raise rfl (takes_of rfl rfl rfl rfl) T.x_Down rfl)) pss_nil)), ?_⟩
    wtm_at "go"
    refine g_ite (fun e => ?_) (fun e => ?_)
    · wtm_at "go"
      exact q2 (by simpa using e)
    · wtm_at "go"
      exact q1 (by simpa using e)
end
end Fk
namespace Fk
open PySem PySem.Spec PyProof.Rows L2
local macro_rules | `(tactic| wtm_at "ln") => `(tactic| first
  | omega
  | (simp only [List.length_cons, List.length_nil, List.length_map, List.length_append, List.length_replicate, List.length_take, List.length_drop, List.length_set]; omega)
  | (with_unfolding_all exact (by decide)))
local macro_rules | `(tactic| wtm_at "ar") => `(tactic| first
  | ((with_reducible show CMulW _ _); (refine' mulS ?_ ?_ <;> omega))
  | ((with_reducible show CDivW _ _); (refine' divS ?_ ?_ <;> omega))
  | ((with_reducible show CPow _ _); exact ⟨by decide, by decide, by decide⟩)
  | (show (0 : Int) < _; omega)
  | (with_unfolding_all exact (by decide)))
local macro_rules | `(tactic| wtm_at "at") => `(tactic| first
  | assumption
  | (refine' cl_atE ?e80 ?h80; (case' e80 => first | exact rfl | assumption); (case' h80 => wtm_at "ln"))
  | exact rfl)
local macro_rules | `(tactic| wtm_at "fr") => `(tactic| first
  | assumption
  | ((with_reducible refine' Mx.free0 ?m99 ?h99); (case' h99 => assumption); (case' m99 => wtm_at "mo")))
local macro_rules | `(tactic| wtm_at "hp") => `(tactic| first
  | assumption
  | ((with_reducible refine' Mx.get0 ?m1 ?h1); (case' m1 => assumption); (case' h1 => wtm_at "hp"))
  | ((with_reducible refine' Mx.get ?m2 ?n2 ?h2); (case' m2 => assumption); (case' n2 => wtm_at "nin"); (case' h2 => wtm_at "hp")))
local macro_rules | `(tactic| wtm_at "sl") => `(tactic| first
  | assumption
  | ((with_reducible refine' Mx.sqL0 ?m96 ?h96); (case' h96 => assumption); (case' m96 => wtm_at "mo"))
  | (refine' SqL.of ?h3; (case' h3 => wtm_at "hp"))
  | ((with_reducible refine' Mx.sqL0 ?m4 ?h4); (case' m4 => assumption); (case' h4 => wtm_at "sl"))
  | ((with_reducible refine' Mx.sqL ?m5 ?n5 ?h5); (case' m5 => assumption); (case' n5 => wtm_at "nin"); (case' h5 => wtm_at "sl")))
local macro_rules | `(tactic| wtm_at "st") => `(tactic| first
  | assumption
  | ((with_reducible refine' Mx.sqT0 ?m97 ?h97); (case' h97 => assumption); (case' m97 => wtm_at "mo"))
  | (refine' SqT.of ?h6; (case' h6 => wtm_at "hp"))
  | ((with_reducible refine' Mx.sqT0 ?m7 ?h7); (case' m7 => assumption); (case' h7 => wtm_at "st"))
  | ((with_reducible refine' Mx.sqT ?m8 ?n8 ?h8); (case' m8 => assumption); (case' n8 => wtm_at "nin"); (case' h8 => wtm_at "st")))
local macro_rules | `(tactic| wtm_at "mx") => `(tactic| first
  | assumption
  | exact Mx.refl
  | ((with_reducible refine' Mx.of0 ?h9); (case' h9 => assumption))
  | ((with_reducible refine' Mx.trans ?h10 ?m10); (case' m10 => first | assumption | ((with_reducible refine' Mx.of0 ?q10); (case' q10 => assumption))); (case' h10 => wtm_at "mx")))
local macro_rules | `(tactic| wtm_at "mo") => `(tactic| first
  | wtm_at "mx"
  | ((with_reducible refine' Mx.own ?m90 ?f90 ?k90); (case' k90 => assumption); (case' f90 => wtm_at "fr"); (case' m90 => wtm_at "mo"))
  | ((with_reducible refine' Mx.trans ?h91 ?m91); (case' m91 => first | assumption | ((with_reducible refine' Mx.of0 ?q91); (case' q91 => assumption))); (case' h91 => wtm_at "mo")))
local macro_rules | `(tactic| wtm_at "ne") => `(tactic| first
  | assumption
  | exact Ne.symm (by assumption)
  | ((with_reducible refine' ne_of_none ?x94 ?y94); (case' y94 => assumption); (case' x94 => wtm_at "hp"))
  | ((with_reducible refine' Ne.symm (ne_of_none ?x95 ?y95)); (case' y95 => assumption); (case' x95 => wtm_at "hp")))
local macro_rules | `(tactic| wtm_at "nin") => `(tactic| first
  | assumption
  | exact List.not_mem_nil
  | ((with_reducible refine' List.not_mem_cons_of_ne_of_not_mem ?h98 ?t98); (case' h98 => wtm_at "ne"); (case' t98 => wtm_at "nin")))
local macro_rules | `(tactic| wtm_at "g1") => `(tactic| first
  | ((with_reducible refine' g_var ?h11 ?k11); (case' h11 => exact rfl))
  | with_reducible refine' g_c ?_
  | with_reducible refine' g_op ?_
  | with_reducible refine' g_I0 ?_
  | ((with_reducible refine' g_I ?c12 ?k12); (case' c12 => wtm_at "ar"))
  | with_reducible refine' g_cons ?_
  | with_reducible refine' g_nil ?_
  | with_reducible refine' g_seq ?_
  | with_reducible refine' g_asg ?_
  | with_reducible refine' g_name ?_
  | with_reducible refine' g_ret ?_
  | with_reducible refine' g_if ?_
  | with_reducible refine' g_test ?_
  | with_reducible refine' g_tB ?_
  | with_reducible refine' g_bl ?_
  | ((with_reducible refine' g_eq ?h13 ?k13); (case' h13 => exact rfl))
  | ((with_reducible refine' g_ne ?h14 ?k14); (case' h14 => exact rfl))
  | with_reducible refine' g_CB ?_
  | with_reducible refine' g_call ?_
  | with_reducible refine' g_drop ?_
  | with_reducible refine' g_next ?_
  | with_reducible refine' g_not ?_
  | with_reducible refine' g_and ?_
  | with_reducible refine' g_or ?_
  | with_reducible refine' g_un ?_
  | with_reducible refine' g_U ?_
  | with_reducible refine' g_tup ?_
  | with_reducible refine' g_lst ?_
  | ((with_reducible refine' g_kNew ?h15 ?k15); (case' h15 => wtm_at "ln"); (case' k15 => intro _ _ _ _ _))
  | ((with_reducible refine' g_ixL ?h16 ?a16 ?k16); (case' h16 => wtm_at "sl"); (case' a16 => wtm_at "at"))
  | ((with_reducible refine' g_ixT ?h17 ?a17 ?k17); (case' h17 => wtm_at "st"); (case' a17 => wtm_at "at"))
  | with_reducible refine' g_slice ?_
  | with_reducible refine' g_part ?_
  | with_reducible refine' g_kPart ?_
  | with_reducible refine' g_noPart ?_
  | ((with_reducible refine' g_slL ?h18 ?k18); (case' h18 => wtm_at "sl"); (case' k18 => intro _ _ _ _ _))
  | ((with_reducible refine' g_cat ?h119 ?h219 ?l19 ?k19); (case' h119 => wtm_at "hp"); (case' h219 => wtm_at "hp"); (case' l19 => wtm_at "ln"); (case' k19 => intro _ _ _ _ _))
  | ((with_reducible refine' g_rep ?h120 ?h220 ?h320 ?l20 ?k20); (case' h120 => wtm_at "hp"); (case' h220 => wtm_at "ln"); (case' h320 => wtm_at "ln"); (case' l20 => wtm_at "ln"); (case' k20 => intro _ _ _ _ _))
  | ((with_reducible refine' g_append ?h21 ?l21 ?k21); (case' h21 => wtm_at "hp"); (case' l21 => wtm_at "ln"); (case' k21 => intro _ _ _))
  | ((with_reducible refine' g_kBM ?h22 ?k22); (case' h22 => wtm_at "sl"))
  | ((with_reducible refine' g_kBM0 ?h23 ?k23); (case' h23 => wtm_at "sl"))
  | ((with_reducible refine' g_kL ?h24 ?k24); (case' h24 => wtm_at "sl"))
  | ((with_reducible refine' g_kR1 ?h125 ?h225 ?k25); (case' h125 => wtm_at "ln"); (case' h225 => wtm_at "ln"))
  | ((with_reducible refine' g_kR2 ?h126 ?h226 ?h326 ?h426 ?k26); (case' h126 => wtm_at "ln"); (case' h226 => wtm_at "ln"); (case' h326 => wtm_at "ln"); (case' h426 => wtm_at "ln"))
  | ((with_reducible refine' g_lenL ?h27 ?k27); (case' h27 => wtm_at "sl"))
  | ((with_reducible refine' g_lenT ?h28 ?k28); (case' h28 => wtm_at "st"))
  | ((with_reducible refine' g_listL ?h29 ?k29); (case' h29 => wtm_at "sl"); (case' k29 => intro _ _ _ _ _))
  | ((with_reducible refine' g_tupleL ?h30 ?k30); (case' h30 => wtm_at "sl"); (case' k30 => intro _ _ _ _ _))
  | with_reducible refine' g_max ?_
  | with_reducible refine' g_min ?_
  | with_reducible refine' g_intB ?_
  | with_reducible refine' g_fld ?_
  | with_reducible refine' g_put ?_
  | with_reducible refine' g_dget ?_
  | with_reducible refine' g_isN ?_
  | with_reducible refine' g_notN ?_
  | with_reducible refine' g_ifE ?_
  | with_reducible refine' g_andV ?_
  | with_reducible refine' g_orV ?_
  | with_reducible refine' g_notV ?_
  | with_reducible refine' g_kIf ?_
  | with_reducible refine' g_chain ?_
  | with_reducible refine' g_kCh ?_
  | with_reducible refine' g_sub ?_
  | ((with_reducible refine' g_setI ?h92 ?e92 ?j92 ?k92); (case' h92 => wtm_at "hp"); (case' e92 => first | exact rfl | assumption); (case' j92 => wtm_at "ln"); (case' k92 => intro _ _ _))
  | ((with_reducible refine' g_setL ?h89 ?i89 ?k89); (case' h89 => wtm_at "hp"); (case' i89 => exact ixE rfl (by wtm_at "ln")); (case' k89 => intro _ _ _))
  | ((with_reducible refine' g_gtup ?h93 ?e93 ?k93); (case' h93 => wtm_at "st"); (case' e93 => exact rfl))
  | with_reducible refine' g_gcons ?_
  | with_reducible refine' g_gnil ?_
  | with_reducible refine' g_par ?_
  | with_reducible refine' g_kPar ?_
  | with_reducible refine' g_meth ?_
  | with_reducible refine' g_bm ?_
  | with_reducible refine' g_bm0 ?_
  | with_reducible refine' g_raise ?_
  | with_reducible refine' g_for ?_
  | with_reducible refine' g_iR1 ?_
  | with_reducible refine' g_iR2 ?_
  | with_reducible refine' g_iL ?_
  | with_reducible refine' g_lc ?_
  | with_reducible refine' g_retN ?_
  | with_reducible refine' g_no (b := false) rfl ?_
  | with_reducible refine' g_yes (b := true) rfl ?_)
local macro_rules | `(tactic| wtm_at "go") => `(tactic| repeat (wtm_at "g1"))
local macro_rules | `(tactic| wtm_at "gs") => `(tactic| repeat ((fail_if_success (with_reducible refine' g_ifE ?_)); wtm_at "g1"))
local macro_rules | `(tactic| wtm_at "gi") => `(tactic| repeat ((fail_if_success (with_reducible refine' g_if ?_)); wtm_at "g1"))
local macro_rules | `(tactic| wtm_at "gr") => `(tactic| repeat ((fail_if_success (with_reducible refine' g_ret ?_)); wtm_at "g1"))
local macro_rules | `(tactic| wtm_at "gq") => `(tactic| repeat ((fail_if_success (with_reducible refine' g_asg ?_)); wtm_at "g1"))
section
variable {P : Program} {w : World} {K : PySem.W.Frag} {mg : Str → Option Value} {base : Heap}
local macro_rules | `(tactic| wtm_at "g1") => `(tactic| first
  | ((with_reducible refine' g_fOwn (by assumption) ?h201 ?k201); (case' h201 => wtm_at "hp"))
  | ((with_reducible refine' g_fKey (by assumption) ?h202 ?k202); (case' h202 => wtm_at "hp"))
  | ((with_reducible refine' g_fMem (by assumption) ?h203 ?k203); (case' h203 => wtm_at "hp"))
  | ((with_reducible refine' g_fPri (by assumption) ?h204 ?k204); (case' h204 => wtm_at "hp"))
  | ((with_reducible refine' g_fAwa (by assumption) ?h205 ?k205); (case' h205 => wtm_at "hp"))
  | ((with_reducible refine' g_pAwa (by assumption) ?h206 ?k206); (case' h206 => wtm_at "hp"); (case' k206 => intro _ _ _))
  | ((with_reducible refine' g_kMeth ?h207 ?l207 ?k207); (case' h207 => wtm_at "hp"); (case' l207 => exact rfl)))

/-- write: the steps up to a cut -/
def spWrite (T : Tx K mg) : Sp := fun vs H Q _ => ∃ (p pm pp b : Addr) (μ : Mt) (us : List V) (chs : List (Nat × Int)) (cut : Option Nat), vs = [.ref p, .ref b, cutO cut] ∧ MetAt K T.C_Meter H p pm pp μ ∧ Any μ.cells ∧ SqL K H b us ∧ DpAll K H us ((chs.map chD).map stD) ∧ (∀ c ∈ chs, c.1 < 10) ∧
  ∀ H', Mx [p, pm] H H' → MetAt K T.C_Meter H' p pm pp (writeM μ chs cut).2 → Q (leftV (writeM μ chs cut).1) H'
theorem cut_zero {c : Option Nat} (h : decide (cutO c = V.int 0) = true) : c = some 0 := by
  cases c with
  | none => simp [cutO] at h
  | some k => simp [cutO] at h; simp [h]
theorem cut_pos {c : Option Nat} (h : decide (cutO c = V.int 0) = false) : c ≠ some 0 := by
  rintro rfl
  simp [cutO] at h
theorem scal_cut (c : Option Nat) : scal (cutO c) (.int 0) = true := by cases c <;> rfl
theorem scal_left (c : Option (Option Nat)) : scal (leftV c) (.int (-1)) = true := by cases c with
  | none => rfl
  | some c => cases c <;> rfl
theorem mt_Meter_write (T : Tx K mg) : Me P w K mg base 4 T.C_Meter "write" (spWrite T) [] := by
  refine T.m_Meter_write.me T.cls_Meter sc_Meter_write (fun vs H Q E h => ?_) (fun cdv A outer s H vs Q E hr h => ?_)
  · obtain ⟨_, _, _, _, _, _, _, _, rfl, _⟩ := h
    rfl
  · obtain ⟨p, pm, pp, b, μ, us, chs, cut, rfl, M, hA, hB, hD, hc, k⟩ := h
    have M0 := M
    obtain ⟨⟨dx, ob⟩, me, ⟨ws, pr, dp⟩, ne⟩ := M
    have npm : p ≠ pm := M0.p_pm
    have npp : p ≠ pp := M0.p_pp
    have hl := hA.1
    refine ⟨_, (pss_cons (ps_for (passes_of rfl) rfl (piL K (q_call (c_steps_to T) hr (by decide) rfl (passes_call (takes_of rfl rfl rfl rfl) (fun _ _ _ _ h => h)) (pa_cons (fldK K (pv 0) rfl) (pa_cons (pv 1) pa_nil)))) (pgT K 2 rfl (pgs_cons (pg_name (i := 3) sc_Meter_write.nd rfl (Or.inl rfl)) (pgs_cons (pg_name (i := 4) sc_Meter_write.nd rfl (Or.inl rfl)) pgs_nil)))
      (pss_cons (ps_if (pt_cmpR op_eq (pv 2) pe_int (by first | exact nomark _ | rfl)) (pss_cons (psFld K (pv 0) pe_bl rfl)
      (pss_one (ps_ret (pe_un un_neg pe_int)))) pss_nil)
      (pss_cons (ps_asg (pv 4) (pg_sub (fldK K (pv 0) rfl) (pv 3) set_list))
      (pss_one (ps_set (i := 2) sc_Meter_write.nd rfl (Or.inl rfl) (pe_ifExp (pt_cmp (pc_isN (pv 2)) rfl) pe_non (pe_op op_sub (pv 2) pe_int)))))))
      (pss_one (ps_ret (pv 2)))), ?_⟩
    wtm_at "go"
    refine ⟨pm, b, μ.cells, us, chs, rfl, by wtm_at "sl", hA, hB, hD, hc, fun l H1 st n1 m1 e1 ds => ?_⟩
    wtm_at "go"
    have ls : st.length = 11 := by rw [ds.len, List.length_map, stepsOf_len]
    refine g_forL (xs := st) (fun i σ' H' => ∃ x y, σ' = [some (.ref p), some (.ref b), some (cutO (cut.map fun k => k - i)), x, y] ∧ (∀ k, cut = some k → i ≤ k) ∧ i ≤ 11 ∧ Mx [pm] H1 H' ∧ H' pm = some (.lst ((wr μ.cells (stepsOf μ.cells chs) i).map V.int)))
      ⟨none, none, ?_, fun _ _ => Nat.zero_le _, Nat.zero_le _, Mx.refl, m1.get0 me⟩ (fun i σ' H' _ hP => ?_) (fun i x σ' H' hx hP => ?_) (fun σ' H' hP => ?_)
    · cases cut <;> rfl
    · obtain ⟨_, _, _, _, _, m, _⟩ := hP
      exact .inl (.inl (m _ _ e1 (by simp; exact (ne_of_none me n1).symm)))
    · obtain ⟨x0, y0, rfl, hk, hi, m, e⟩ := hP
      have hi2 : i < 11 := by
        have := (List.getElem?_eq_some_iff.mp hx).1
        omega
      obtain ⟨d, hd, hv⟩ := ds.get' hx
      rw [List.getElem?_map, Option.map_eq_some_iff] at hd
      obtain ⟨s, hs, rfl⟩ := hd
      have hv2 : Dp K H' x (stD s) := hv.mxT m (noTup1 (m1.get0 me)) (by simp [stD, frz, frzAll])
      obtain ⟨t, rfl, ht⟩ := hv2.st
      obtain ⟨j, ej, hj⟩ := stepsOf_ix (List.mem_of_getElem? hs)
      have hw : (wr μ.cells (stepsOf μ.cells chs) i).length = 20 := by rw [wr_len, hl]
      have ob2 : H' p = some (.ins T.C_Meter dx (mFlds μ pm pp)) := m _ _ (m1.get0 ob) (by simpa using npm)
      refine g_gtup ht rfl ?_
      wtm_at "go"
      refine g_eq (scal_cut _) ?_
      wtm_at "go"
      refine g_ite (fun ec => ?_) (fun ec => ?_)
      · have e0 := cut_zero ec
        wtm_at "go"
        rename_i H3 m3 e3
        obtain ⟨c, ec1, ec2⟩ := Option.map_eq_some_iff.mp e0
        have := hk c ec1
        have eci : c = i := by omega
        subst eci
        have ew : writeM μ chs cut = (none, { μ with cells := wr μ.cells (stepsOf μ.cells chs) c, up := false }) := by
          rw [ec1]
          simp only [writeM, if_pos hi2]
        rw [ew] at k
        refine k H3 (((m1.of0).trans (m.mono (by simp))).trans (m3.mono (by simp))) ⟨⟨dx, e3⟩, ?_, ⟨ws, ?_, ?_⟩, ne⟩
        · exact m3 _ _ e (by simpa using npm.symm)
        · exact m3 _ _ (m _ _ (m1.get0 pr) (by simpa using ne.symm)) (by simpa using npp.symm)
        · exact m3.sts (noTupI ob2) (m.sts (noTup1 (m1.get0 me)) (dp.mx m1))
      · have e0 := cut_pos ec
        wtm_at "go"
        rename_i H3 m3 e3
        refine g_ite (fun en => ?_) (fun en => ?_)
        · have ec0 : cut = none := by
            cases cut with
            | none => rfl
            | some c => simp [cutO] at en
          subst ec0
          wtm_at "go"
          refine ⟨_, _, rfl, fun _ z => by simp at z, hi2, m.trans m3, ?_⟩
          rw [e3, wr_succ hs, ej]
          rfl
        · cases cut with
          | none => simp [cutO] at en
          | some c =>
            have hci : i < c := by
              have := hk c rfl
              have : c - i ≠ 0 := fun z => e0 (by simp [z])
              omega
            simp only [Option.map_some, cutO]
            wtm_at "go"
            refine ⟨some (.int s.1), some (.int s.2), ?_, fun k ek => by cases ek; exact hci, hi2, m.trans m3, ?_⟩
            · have : ((c - i : Nat) : Int) - 1 = ((c - (i + 1) : Nat) : Int) := by omega
              rw [this]
              rfl
            · rw [e3, wr_succ hs, ej]
              rfl
    · obtain ⟨x0, y0, rfl, hk, hi, m, e⟩ := hP
      rw [ls] at e hk hi
      wtm_at "go"
      have ew : leftV (writeM μ chs cut).1 = cutO (cut.map fun k => k - 11) ∧ (writeM μ chs cut).2 = { μ with cells := wr μ.cells (stepsOf μ.cells chs) 11 } := by
        cases cut with
        | none => exact ⟨rfl, rfl⟩
        | some c =>
          have := hk c rfl
          have hw : writeM μ chs (some c) = (some (some (c - 11)), { μ with cells := wr μ.cells (stepsOf μ.cells chs) 11 }) := if_neg (show ¬ c < 11 by omega)
          rw [hw]
          exact ⟨rfl, rfl⟩
      rw [ew.1, ew.2] at k
      rw [ls]
      refine k H' ((m1.of0).trans (m.mono (by simp))) ⟨⟨dx, m _ _ (m1.get0 ob) (by simpa using npm)⟩, e, ⟨ws, m _ _ (m1.get0 pr) (by simpa using ne.symm), m.sts (noTup1 (m1.get0 me)) (dp.mx m1)⟩, ne⟩
/-- owed -/
theorem last_at {vs : List V} {ss : List (Int × Int)} {H : Hp} (d : DpAll K H vs (ss.map stD)) (hn : ss ≠ []) : ∃ v, atI vs (-1) = some v ∧ ∃ s, ss.getLast? = some s ∧ Dp K H v (stD s) := by
  have hl := d.len
  rw [List.length_map] at hl
  have h0 : ss.length ≠ 0 := fun z => hn (List.length_eq_zero_iff.mp z)
  obtain ⟨s, hs⟩ : ∃ s, ss[ss.length - 1]? = some s := ⟨_, List.getElem?_eq_getElem (by omega)⟩
  obtain ⟨v, hv, hd⟩ := d.get (i := ss.length - 1) (d := stD s) (by rw [List.getElem?_map, hs]; rfl)
  refine ⟨v, ?_, s, by rw [List.getLast?_eq_getElem?]; exact hs, hd⟩
  unfold atI ixN
  rw [if_neg (by omega), if_pos (by omega)]
  show vs[(-1 + (vs.length : Int)).toNat]? = some v
  rw [show (-1 + (vs.length : Int)).toNat = ss.length - 1 by omega]
  exact hv
def spOwed (T : Tx K mg) : Sp := fun vs H Q _ => ∃ (p pm pp : Addr) (μ : Mt), vs = [.ref p] ∧ MetAt K T.C_Meter H p pm pp μ ∧ Any μ.cells ∧
  match owed μ with
  | none => ∀ H', Mx [] H H' → Q .non H'
  | some s => ∀ l H', H l = none → Mx [] H H' → H' l = some (.tup [.int s.1, .int s.2]) → Q (.ref l) H'
theorem mt_Meter_owed (T : Tx K mg) : Me P w K mg base 3 T.C_Meter "owed" (spOwed T) [] := by
  refine T.m_Meter_owed.me T.cls_Meter sc_Meter_owed (fun vs H Q E h => ?_) (fun cdv A outer s H vs Q E hr h => ?_)
  · obtain ⟨_, _, _, _, rfl, _⟩ := h
    rfl
  · obtain ⟨p, pm, pp, μ, rfl, ⟨⟨dx, ob⟩, me, ⟨ws, pr, dp⟩, ne⟩, hA, q⟩ := h
    have hl := hA.1
    have hb := bank_len hl
    refine ⟨_, (pss_cons (ps_set (i := 1) sc_Meter_owed.nd rfl (Or.inl rfl) (q_call (c_bank_of T) hr (by decide) rfl (passes_call (takes_of rfl rfl rfl rfl) (fun _ _ _ _ h => h)) (pa_cons (fldK K (pv 0) rfl) pa_nil)))
      (pss_cons (ps_set (i := 2) sc_Meter_owed.nd rfl (Or.inl rfl) (pe_ifExp (pt_cmpR (opNeD K hr.units) (fldK K (pv 0) rfl) (pe_lst pa_nil) (by first | exact nomark _ | rfl)) (pe_ix (ixT K) (pe_ix (ixL K) (fldK K (pv 0) rfl) (pe_un un_neg pe_int) (fun _ _ => rfl)) pe_int (fun _ _ => rfl)) pe_int))
      (pss_one (ps_ret (pe_ifExp (pt_cmpR op_gt (pe_ix (ixL K) (pv 1) (q_const T.g_STAMP rfl) (fun _ _ => rfl)) (pv 2) (by first | exact nomark _ | rfl)) (pe_tup (pa_cons (pe_ix (ixL K) (pv 1) (q_const T.g_STAMP rfl) (fun _ _ => rfl)) (pa_cons (pe_ix (ixL K) (pv 1) (q_const T.g_AMOUNT rfl) (fun _ _ => rfl)) pa_nil))) pe_non))))), ?_⟩
    wtm_at "go"
    refine ⟨pm, μ.cells, rfl, by wtm_at "sl", by omega, fun _ b H1 n1 m1 e1 => ?_, fun z => absurd hA z⟩
    wtm_at "go"
    rename_i l H2 n2 m2 e2
    refine g_neS (xs := μ.stamps) (ys := []) (.lst (by wtm_at "sl") ((dp.mx m1).mx m2)) (.lst (by wtm_at "sl") .nil) ?_
    wtm_at "go"
    refine g_ite (fun e => ?_) (fun e => ?_)
    · have hn : μ.stamps ≠ [] := by simpa using e
      obtain ⟨v, hv, s, hs, hd⟩ := last_at ((dp.mx m1).mx m2) hn
      obtain ⟨t, rfl, ht⟩ := hd.st
      wtm_at "go"
      have ez : s.1 = lastNo μ.stamps := by unfold lastNo; rw [hs]
      refine g_ite (fun e => ?_) (fun e => ?_)
      · have eo : owed μ = some (bk μ 8, bk μ 9) := if_pos (by rw [← ez]; simpa [bk] using e)
        rw [eo] at q
        wtm_at "go"
        exact q _ _ (by wtm_at "fr") (by wtm_at "mo") (by assumption)
      · have eo : owed μ = none := if_neg (by rw [← ez]; simpa [bk] using e)
        rw [eo] at q
        wtm_at "go"
        exact q _ (by wtm_at "mo")
    · have hn : μ.stamps = [] := by simpa using e
      wtm_at "go"
      have ez : (0 : Int) = lastNo μ.stamps := by rw [hn]; rfl
      refine g_ite (fun e => ?_) (fun e => ?_)
      · have eo : owed μ = some (bk μ 8, bk μ 9) := if_pos (by rw [← ez]; simpa [bk] using e)
        rw [eo] at q
        wtm_at "go"
        exact q _ _ (by wtm_at "fr") (by wtm_at "mo") (by assumption)
      · have eo : owed μ = none := if_neg (by rw [← ez]; simpa [bk] using e)
        rw [eo] at q
        wtm_at "go"
        exact q _ (by wtm_at "mo")
/-- print_owed -/
def spPrintOwed (T : Tx K mg) : Sp := fun vs H Q _ => ∃ (p pm pp : Addr) (μ : Mt) (cut : Option Nat), vs = [.ref p, cutO cut] ∧ MetAt K T.C_Meter H p pm pp μ ∧ Any μ.cells ∧ μ.stamps.length < 1000 ∧
  ∀ H', Mx [p, pp] H H' → MetAt K T.C_Meter H' p pm pp (printM μ cut).2 → Q (.bl (printM μ cut).1) H'
theorem mt_Meter_print_owed (T : Tx K mg) : Me P w K mg base 4 T.C_Meter "print_owed" (spPrintOwed T) [] := by
  refine T.m_Meter_print_owed.me T.cls_Meter sc_Meter_print_owed (fun vs H Q E h => ?_) (fun cdv A outer s H vs Q E hr h => ?_)
  · obtain ⟨_, _, _, _, _, rfl, _⟩ := h
    rfl
  · obtain ⟨p, pm, pp, μ, cut, rfl, M, hA, hst, k⟩ := h
    have M0 := M
    obtain ⟨⟨dx, ob⟩, me, ⟨ws, pr, dp⟩, ne⟩ := M
    have npm : p ≠ pm := M0.p_pm
    have npp : p ≠ pp := M0.p_pp
    have lw : ws.length < 1000 := by rw [dp.len, List.length_map]; exact hst
    refine ⟨_, (pss_cons (ps_set (i := 2) sc_Meter_print_owed.nd rfl (Or.inl rfl) (q_meth0 (mt_Meter_owed T) hr (by decide) (pv 0) (passes_call (takes_of rfl rfl rfl rfl) (fun _ _ _ _ h => h))))
      (pss_cons (ps_if (PW.pt (pw_and (pt_cmp (pc_notN (pv 2)) rfl) (pw_and1 (pt_cmpR op_eq (pv 1) pe_int (by first | exact nomark _ | rfl))))) (pss_cons (psFld K (pv 0) pe_bl rfl)
      (pss_one (ps_ret pe_bl))) pss_nil)
      (pss_cons (ps_if (pt_cmp (pc_notN (pv 2)) rfl) (pss_one (ps_expr (bmK K PySem.F.plainAttrs_list PySem.F.slot_list_append PySem.F.type_list_append mt_append (fldK K (pv 0) rfl) (pa_cons (pv 2) pa_nil)))) pss_nil)
      (pss_one (ps_ret pe_bl))))), ?_⟩
    wtm_at "go"
    refine ⟨p, pm, pp, μ, rfl, M0, hA, ?_⟩
    cases eo : owed μ with
    | none =>
      intro H1 m1
      have ep : printM μ cut = (true, μ) := by simp only [printM, eo]
      rw [ep] at k
      wtm_at "go"
      refine g_no (by simp) ?_
      wtm_at "go"
      refine g_no (by simp) ?_
      wtm_at "go"
      exact k _ m1.of0 (M0.mx0 m1)
    | some s =>
      intro l H1 n1 m1 e1
      wtm_at "go"
      refine g_yes (by simp) ?_
      wtm_at "go"
      refine g_eq (scal_cut _) ?_
      wtm_at "go"
      refine g_ite (fun e => ?_) (fun e => ?_)
      · have e0 := cut_zero e
        subst e0
        have ep : printM μ (some 0) = (false, { μ with up := false }) := by simp only [printM, eo, if_pos]
        rw [ep] at k
        wtm_at "go"
        rename_i H3 m3 e3
        refine k _ ((m1.of0).trans (m3.mono (by simp))) ⟨⟨dx, e3⟩, ?_, ⟨ws, ?_, ?_⟩, ne⟩
        · exact m3 _ _ (m1.get0 me) (by simpa using npm.symm)
        · exact m3 _ _ (m1.get0 pr) (by simpa using npp.symm)
        · exact m3.sts (noTupI (m1.get0 ob)) (dp.mx m1)
      · have e0 := cut_pos e
        have ep : printM μ cut = (true, { μ with stamps := μ.stamps ++ [s] }) := by simp only [printM, eo, if_neg e0]
        rw [ep] at k
        wtm_at "go"
        refine g_yes (by simp) ?_
        wtm_at "go"
        rename_i H3 m3 e3
        refine k _ ((m1.of0).trans (m3.mono (by simp))) ⟨⟨dx, m3 _ _ (m1.get0 ob) (by simpa using npp)⟩, ?_, ⟨_, e3, ?_⟩, ne⟩
        · exact m3 _ _ (m1.get0 me) (by simpa using ne)
        · rw [List.map_append]
          refine .app (m3.sts (noTup1 (m1.get0 pr)) (dp.mx m1)) (.cons (.mkSt (.of (m3 _ _ e1 ?_))) .nil)
          simp
          rintro rfl
          rw [pr] at n1
          cases n1
end
end Fk
namespace Fk
open PySem PySem.Spec PyProof.Rows L2
local macro_rules | `(tactic| wtm_at "ln") => `(tactic| first
  | omega
  | (simp only [List.length_cons, List.length_nil, List.length_map, List.length_append, List.length_replicate, List.length_take, List.length_drop, List.length_set]; omega)
  | (with_unfolding_all exact (by decide)))
local macro_rules | `(tactic| wtm_at "ar") => `(tactic| first
  | ((with_reducible show CMulW _ _); (refine' mulS ?_ ?_ <;> omega))
  | ((with_reducible show CDivW _ _); (refine' divS ?_ ?_ <;> omega))
  | ((with_reducible show CPow _ _); exact ⟨by decide, by decide, by decide⟩)
  | (show (0 : Int) < _; omega)
  | (with_unfolding_all exact (by decide)))
local macro_rules | `(tactic| wtm_at "at") => `(tactic| first
  | assumption
  | (refine' cl_atE ?e80 ?h80; (case' e80 => first | exact rfl | assumption); (case' h80 => wtm_at "ln"))
  | exact rfl)
local macro_rules | `(tactic| wtm_at "fr") => `(tactic| first
  | assumption
  | ((with_reducible refine' Mx.free0 ?m99 ?h99); (case' h99 => assumption); (case' m99 => wtm_at "mo")))
local macro_rules | `(tactic| wtm_at "hp") => `(tactic| first
  | assumption
  | ((with_reducible refine' Mx.get0 ?m1 ?h1); (case' m1 => assumption); (case' h1 => wtm_at "hp"))
  | ((with_reducible refine' Mx.get ?m2 ?n2 ?h2); (case' m2 => assumption); (case' n2 => wtm_at "nin"); (case' h2 => wtm_at "hp")))
local macro_rules | `(tactic| wtm_at "sl") => `(tactic| first
  | assumption
  | ((with_reducible refine' Mx.sqL0 ?m96 ?h96); (case' h96 => assumption); (case' m96 => wtm_at "mo"))
  | (refine' SqL.of ?h3; (case' h3 => wtm_at "hp"))
  | ((with_reducible refine' Mx.sqL0 ?m4 ?h4); (case' m4 => assumption); (case' h4 => wtm_at "sl"))
  | ((with_reducible refine' Mx.sqL ?m5 ?n5 ?h5); (case' m5 => assumption); (case' n5 => wtm_at "nin"); (case' h5 => wtm_at "sl")))
local macro_rules | `(tactic| wtm_at "st") => `(tactic| first
  | assumption
  | ((with_reducible refine' Mx.sqT0 ?m97 ?h97); (case' h97 => assumption); (case' m97 => wtm_at "mo"))
  | (refine' SqT.of ?h6; (case' h6 => wtm_at "hp"))
  | ((with_reducible refine' Mx.sqT0 ?m7 ?h7); (case' m7 => assumption); (case' h7 => wtm_at "st"))
  | ((with_reducible refine' Mx.sqT ?m8 ?n8 ?h8); (case' m8 => assumption); (case' n8 => wtm_at "nin"); (case' h8 => wtm_at "st")))
local macro_rules | `(tactic| wtm_at "mx") => `(tactic| first
  | assumption
  | exact Mx.refl
  | ((with_reducible refine' Mx.of0 ?h9); (case' h9 => assumption))
  | ((with_reducible refine' Mx.trans ?h10 ?m10); (case' m10 => first | assumption | ((with_reducible refine' Mx.of0 ?q10); (case' q10 => assumption))); (case' h10 => wtm_at "mx")))
local macro_rules | `(tactic| wtm_at "mo") => `(tactic| first
  | wtm_at "mx"
  | ((with_reducible refine' Mx.own ?m90 ?f90 ?k90); (case' k90 => assumption); (case' f90 => wtm_at "fr"); (case' m90 => wtm_at "mo"))
  | ((with_reducible refine' Mx.trans ?h91 ?m91); (case' m91 => first | assumption | ((with_reducible refine' Mx.of0 ?q91); (case' q91 => assumption))); (case' h91 => wtm_at "mo")))
local macro_rules | `(tactic| wtm_at "ne") => `(tactic| first
  | assumption
  | exact Ne.symm (by assumption)
  | ((with_reducible refine' ne_of_none ?x94 ?y94); (case' y94 => assumption); (case' x94 => wtm_at "hp"))
  | ((with_reducible refine' Ne.symm (ne_of_none ?x95 ?y95)); (case' y95 => assumption); (case' x95 => wtm_at "hp")))
local macro_rules | `(tactic| wtm_at "nin") => `(tactic| first
  | assumption
  | exact List.not_mem_nil
  | ((with_reducible refine' List.not_mem_cons_of_ne_of_not_mem ?h98 ?t98); (case' h98 => wtm_at "ne"); (case' t98 => wtm_at "nin")))
local macro_rules | `(tactic| wtm_at "g1") => `(tactic| first
  | ((with_reducible refine' g_var ?h11 ?k11); (case' h11 => exact rfl))
  | with_reducible refine' g_c ?_
  | with_reducible refine' g_op ?_
  | with_reducible refine' g_I0 ?_
  | ((with_reducible refine' g_I ?c12 ?k12); (case' c12 => wtm_at "ar"))
  | with_reducible refine' g_cons ?_
  | with_reducible refine' g_nil ?_
  | with_reducible refine' g_seq ?_
  | with_reducible refine' g_asg ?_
  | with_reducible refine' g_name ?_
  | with_reducible refine' g_ret ?_
  | with_reducible refine' g_if ?_
  | with_reducible refine' g_test ?_
  | with_reducible refine' g_tB ?_
  | with_reducible refine' g_bl ?_
  | ((with_reducible refine' g_eq ?h13 ?k13); (case' h13 => exact rfl))
  | ((with_reducible refine' g_ne ?h14 ?k14); (case' h14 => exact rfl))
  | with_reducible refine' g_CB ?_
  | with_reducible refine' g_call ?_
  | with_reducible refine' g_drop ?_
  | with_reducible refine' g_next ?_
  | with_reducible refine' g_not ?_
  | with_reducible refine' g_and ?_
  | with_reducible refine' g_or ?_
  | with_reducible refine' g_un ?_
  | with_reducible refine' g_U ?_
  | with_reducible refine' g_tup ?_
  | with_reducible refine' g_lst ?_
  | ((with_reducible refine' g_kNew ?h15 ?k15); (case' h15 => wtm_at "ln"); (case' k15 => intro _ _ _ _ _))
  | ((with_reducible refine' g_ixL ?h16 ?a16 ?k16); (case' h16 => wtm_at "sl"); (case' a16 => wtm_at "at"))
  | ((with_reducible refine' g_ixT ?h17 ?a17 ?k17); (case' h17 => wtm_at "st"); (case' a17 => wtm_at "at"))
  | with_reducible refine' g_slice ?_
  | with_reducible refine' g_part ?_
  | with_reducible refine' g_kPart ?_
  | with_reducible refine' g_noPart ?_
  | ((with_reducible refine' g_slL ?h18 ?k18); (case' h18 => wtm_at "sl"); (case' k18 => intro _ _ _ _ _))
  | ((with_reducible refine' g_cat ?h119 ?h219 ?l19 ?k19); (case' h119 => wtm_at "hp"); (case' h219 => wtm_at "hp"); (case' l19 => wtm_at "ln"); (case' k19 => intro _ _ _ _ _))
  | ((with_reducible refine' g_rep ?h120 ?h220 ?h320 ?l20 ?k20); (case' h120 => wtm_at "hp"); (case' h220 => wtm_at "ln"); (case' h320 => wtm_at "ln"); (case' l20 => wtm_at "ln"); (case' k20 => intro _ _ _ _ _))
  | ((with_reducible refine' g_append ?h21 ?l21 ?k21); (case' h21 => wtm_at "hp"); (case' l21 => wtm_at "ln"); (case' k21 => intro _ _ _))
  | ((with_reducible refine' g_kBM ?h22 ?k22); (case' h22 => wtm_at "sl"))
  | ((with_reducible refine' g_kBM0 ?h23 ?k23); (case' h23 => wtm_at "sl"))
  | ((with_reducible refine' g_kL ?h24 ?k24); (case' h24 => wtm_at "sl"))
  | ((with_reducible refine' g_kR1 ?h125 ?h225 ?k25); (case' h125 => wtm_at "ln"); (case' h225 => wtm_at "ln"))
  | ((with_reducible refine' g_kR2 ?h126 ?h226 ?h326 ?h426 ?k26); (case' h126 => wtm_at "ln"); (case' h226 => wtm_at "ln"); (case' h326 => wtm_at "ln"); (case' h426 => wtm_at "ln"))
  | ((with_reducible refine' g_lenL ?h27 ?k27); (case' h27 => wtm_at "sl"))
  | ((with_reducible refine' g_lenT ?h28 ?k28); (case' h28 => wtm_at "st"))
  | ((with_reducible refine' g_listL ?h29 ?k29); (case' h29 => wtm_at "sl"); (case' k29 => intro _ _ _ _ _))
  | ((with_reducible refine' g_tupleL ?h30 ?k30); (case' h30 => wtm_at "sl"); (case' k30 => intro _ _ _ _ _))
  | with_reducible refine' g_max ?_
  | with_reducible refine' g_min ?_
  | with_reducible refine' g_intB ?_
  | with_reducible refine' g_fld ?_
  | with_reducible refine' g_put ?_
  | with_reducible refine' g_dget ?_
  | with_reducible refine' g_isN ?_
  | with_reducible refine' g_notN ?_
  | with_reducible refine' g_ifE ?_
  | with_reducible refine' g_andV ?_
  | with_reducible refine' g_orV ?_
  | with_reducible refine' g_notV ?_
  | with_reducible refine' g_kIf ?_
  | with_reducible refine' g_chain ?_
  | with_reducible refine' g_kCh ?_
  | with_reducible refine' g_sub ?_
  | ((with_reducible refine' g_setI ?h92 ?e92 ?j92 ?k92); (case' h92 => wtm_at "hp"); (case' e92 => first | exact rfl | assumption); (case' j92 => wtm_at "ln"); (case' k92 => intro _ _ _))
  | ((with_reducible refine' g_setL ?h89 ?i89 ?k89); (case' h89 => wtm_at "hp"); (case' i89 => exact ixE rfl (by wtm_at "ln")); (case' k89 => intro _ _ _))
  | ((with_reducible refine' g_gtup ?h93 ?e93 ?k93); (case' h93 => wtm_at "st"); (case' e93 => exact rfl))
  | with_reducible refine' g_gcons ?_
  | with_reducible refine' g_gnil ?_
  | with_reducible refine' g_par ?_
  | with_reducible refine' g_kPar ?_
  | with_reducible refine' g_meth ?_
  | with_reducible refine' g_bm ?_
  | with_reducible refine' g_bm0 ?_
  | with_reducible refine' g_raise ?_
  | with_reducible refine' g_for ?_
  | with_reducible refine' g_iR1 ?_
  | with_reducible refine' g_iR2 ?_
  | with_reducible refine' g_iL ?_
  | with_reducible refine' g_lc ?_
  | with_reducible refine' g_retN ?_
  | with_reducible refine' g_no (b := false) rfl ?_
  | with_reducible refine' g_yes (b := true) rfl ?_)
local macro_rules | `(tactic| wtm_at "go") => `(tactic| repeat (wtm_at "g1"))
local macro_rules | `(tactic| wtm_at "gs") => `(tactic| repeat ((fail_if_success (with_reducible refine' g_ifE ?_)); wtm_at "g1"))
local macro_rules | `(tactic| wtm_at "gi") => `(tactic| repeat ((fail_if_success (with_reducible refine' g_if ?_)); wtm_at "g1"))
local macro_rules | `(tactic| wtm_at "gr") => `(tactic| repeat ((fail_if_success (with_reducible refine' g_ret ?_)); wtm_at "g1"))
local macro_rules | `(tactic| wtm_at "gq") => `(tactic| repeat ((fail_if_success (with_reducible refine' g_asg ?_)); wtm_at "g1"))
/-! ### the plain law of a bank written -/
theorem cl_set_ne {cs : List Int} {i j : Nat} {v : Int} (h : j ≠ i) : cl (cs.set i v) j = cl cs j := by
  unfold cl
  rw [List.getD_eq_getElem?_getD, List.getD_eq_getElem?_getD, List.getElem?_set_ne (Ne.symm h)]
theorem cl_set_eq {cs : List Int} {i : Nat} {v : Int} (h : i < cs.length) : cl (cs.set i v) i = v := by
  unfold cl
  rw [List.getD_eq_getElem?_getD, List.getElem?_set_self h]
  rfl
theorem cl_map_range {n i : Nat} {f : Nat → Int} (h : i < n) : cl ((List.range n).map f) i = f i := by
  unfold cl
  rw [List.getD_eq_getElem?_getD, List.getElem?_map, List.getElem?_range h]
  rfl
theorem ext_cl {xs ys : List Int} (h : xs.length = ys.length) (e : ∀ i, i < xs.length → cl xs i = cl ys i) : xs = ys := by
  apply List.ext_getElem h
  intro i h1 h2
  have := e i h1
  unfold cl at this
  rw [List.getD_eq_getElem?_getD, List.getD_eq_getElem?_getD, List.getElem?_eq_getElem h1, List.getElem?_eq_getElem h2] at this
  exact this
theorem cl_take {cs : List Int} {n i : Nat} (h : i < n) : cl (cs.take n) i = cl cs i := by
  unfold cl
  rw [List.getD_eq_getElem?_getD, List.getD_eq_getElem?_getD, List.getElem?_take_of_lt h]
theorem cl_drop {cs : List Int} {n i : Nat} : cl (cs.drop n) i = cl cs (n + i) := by
  unfold cl
  rw [List.getD_eq_getElem?_getD, List.getD_eq_getElem?_getD, List.getElem?_drop]
theorem cl_bank {cs : List Int} {i : Nat} (h : i < 10) : cl (bank cs) i = cl cs (stand cs * 10 + i) := by
  unfold bank
  rw [cl_take h, cl_drop]
theorem stand_whole {cs : List Int} (h : Any cs) : cl cs (stand cs * 10) = 1 := by
  unfold stand
  split
  · rename_i z; simpa using z.1
  · rename_i z
    rcases h.2 with e | e
    · exact Classical.byContradiction fun q => z ⟨e, fun y => q (by simpa using y.1)⟩
    · simpa using e
theorem other_stand (cs : List Int) : (stand cs = 0 ∧ other cs = 10) ∨ (stand cs = 1 ∧ other cs = 0) := by
  have := stand_le cs
  unfold other
  omega
/-- what the steps leave at a cell: by the steps done -/
theorem wr_other {cs : List Int} {chs : List (Nat × Int)} {k j : Nat} (h : ∀ s ∈ stepsOf cs chs, s.1 ≠ (j : Int)) : cl (wr cs (stepsOf cs chs) k) j = cl cs j := by
  induction k with
  | zero => rfl
  | succ k ih =>
    cases e : (stepsOf cs chs)[k]? with
    | none =>
      have : wr cs (stepsOf cs chs) (k + 1) = wr cs (stepsOf cs chs) k := by
        have hk := List.getElem?_eq_none_iff.mp e
        unfold wr
        rw [List.take_of_length_le hk, List.take_of_length_le (by omega)]
      rw [this, ih]
    | some s =>
      rw [wr_succ e, cl_set_ne ?_, ih]
      have := h s (List.mem_of_getElem? e)
      obtain ⟨i, ei, _⟩ := stepsOf_ix (List.mem_of_getElem? e)
      omega
theorem steps_in {cs : List Int} {chs : List (Nat × Int)} {s : Int × Int} (h : s ∈ stepsOf cs chs) : (other cs : Int) ≤ s.1 ∧ s.1 < other cs + 10 := by
  simp only [stepsOf, List.cons_append, List.mem_cons, List.mem_append, List.mem_map, List.mem_range, List.not_mem_nil, or_false] at h
  rcases h with h | ⟨k, hk, h⟩ | h
  · rw [h]; simp; omega
  · rw [← h]; simp; omega
  · rw [h]; simp; omega
theorem wr_stand {cs : List Int} {chs : List (Nat × Int)} {k i : Nat} (h : i < 10) : cl (wr cs (stepsOf cs chs) k) (stand cs * 10 + i) = cl cs (stand cs * 10 + i) := by
  refine wr_other fun s hs => ?_
  have := steps_in hs
  rcases other_stand cs with ⟨a, b⟩ | ⟨a, b⟩ <;> rw [a] <;> rw [b] at this <;> simp at * <;> omega
theorem any_wr {cs : List Int} {chs : List (Nat × Int)} {k : Nat} (h : Any cs) : Any (wr cs (stepsOf cs chs) k) := by
  have hw := stand_whole h
  have := wr_stand (cs := cs) (chs := chs) (k := k) (i := 0) (by omega)
  simp only [Nat.add_zero] at this
  refine ⟨by rw [wr_len]; exact h.1, ?_⟩
  rcases other_stand cs with ⟨a, b⟩ | ⟨a, b⟩ <;> rw [a] at this hw <;> simp at this hw
  · exact .inl (this.trans hw)
  · exact .inr (this.trans hw)
/-- the first k steps: the other bank's whole is 0, then its cells one by one -/
theorem wr_do {cs : List Int} {chs : List (Nat × Int)} (hl : cs.length = 20) : ∀ k, k < 10 → ∀ i, i < 10 → cl (wr cs (stepsOf cs chs) (k + 1)) (other cs + i) = if i = 0 then 0 else if i ≤ k then cl (news cs chs) i else cl cs (other cs + i) := by
  have ho := other_le cs
  intro k
  induction k with
  | zero =>
    intro _ i hi
    have e : (stepsOf cs chs)[0]? = some ((other cs : Int), 0) := rfl
    rw [wr_succ e]
    show cl ((wr cs (stepsOf cs chs) 0).set ((other cs : Int).toNat) 0) _ = _
    by_cases h : i = 0
    · subst h
      simp only [Int.toNat_natCast, Nat.add_zero, if_true]
      rw [cl_set_eq]
      rw [wr_len]; omega
    · rw [if_neg h, if_neg (by omega), cl_set_ne (by simp; omega)]
      rfl
  | succ k ih =>
    intro hk i hi
    have e : (stepsOf cs chs)[k + 1]? = some ((other cs : Int) + (1 + (k : Int)), cl (news cs chs) (k + 1)) := by
      unfold stepsOf
      rw [List.cons_append, List.getElem?_cons_succ, List.getElem?_append_left (by simp; omega)]
      simp [show k < 9 by omega]
    rw [wr_succ e]
    show cl ((wr cs (stepsOf cs chs) (k + 1)).set (((other cs : Int) + (1 + (k : Int))).toNat) (cl (news cs chs) (k + 1))) _ = _
    have et : ((other cs : Int) + (1 + (k : Int))).toNat = other cs + (k + 1) := by omega
    rw [et]
    by_cases h : i = k + 1
    · subst h
      rw [cl_set_eq (by rw [wr_len]; omega), if_neg (by omega), if_pos (by omega)]
    · rw [cl_set_ne (by omega), ih (by omega) i hi]
      by_cases h0 : i = 0
      · rw [if_pos h0, if_pos h0]
      · rw [if_neg h0, if_neg h0]
        by_cases h1 : i ≤ k
        · rw [if_pos h1, if_pos (by omega)]
        · rw [if_neg h1, if_neg (by omega)]
theorem wr_all {cs : List Int} {chs : List (Nat × Int)} (hl : cs.length = 20) {i : Nat} (hi : i < 10) : cl (wr cs (stepsOf cs chs) 11) (other cs + i) = if i = 0 then 1 else cl (news cs chs) i := by
  have ho := other_le cs
  have e : (stepsOf cs chs)[10]? = some ((other cs : Int), 1) := rfl
  rw [wr_succ e]
  show cl ((wr cs (stepsOf cs chs) 10).set ((other cs : Int).toNat) 1) _ = _
  simp only [Int.toNat_natCast]
  by_cases h : i = 0
  · subst h
    simp only [Nat.add_zero, if_true]
    rw [cl_set_eq]
    rw [wr_len]; omega
  · rw [if_neg h, cl_set_ne (by omega), wr_do hl 9 (by omega) i hi, if_neg h, if_pos (by omega)]
/-- changes are told of places from 2 on -/
def Chs (chs : List (Nat × Int)) : Prop := ∀ c ∈ chs, 2 ≤ c.1 ∧ c.1 < 10
theorem foldl_cl {chs : List (Nat × Int)} : ∀ {b : List Int} {i : Nat}, (∀ c ∈ chs, c.1 ≠ i) → cl (chs.foldl (fun b c => b.set c.1 c.2) b) i = cl b i := by
  induction chs with
  | nil => intros; rfl
  | cons c r ih =>
    intro b i h
    rw [List.foldl_cons, ih fun c hc => h c (List.mem_cons_of_mem _ hc), cl_set_ne (Ne.symm (h c List.mem_cons_self))]
theorem news_0 {cs : List Int} {chs : List (Nat × Int)} (hA : Any cs) (hc : Chs chs) : cl (news cs chs) 0 = 1 := by
  unfold news
  rw [foldl_cl (fun c h => by have := hc c h; omega), cl_set_ne (by omega), cl_bank (by omega)]
  exact stand_whole hA
theorem news_1 {cs : List Int} {chs : List (Nat × Int)} (hA : Any cs) (hc : Chs chs) : cl (news cs chs) 1 = cl (bank cs) 1 + 1 := by
  unfold news
  rw [foldl_cl (fun c h => by have := hc c h; omega), cl_set_eq (by rw [bank_len hA.1]; omega)]
/-- behind all eleven steps the other bank stands, with the news -/
theorem stand_wr {cs : List Int} {chs : List (Nat × Int)} (hA : Any cs) (hc : Chs chs) : stand (wr cs (stepsOf cs chs) 11) = 1 - stand cs := by
  have hw := stand_whole hA
  have w0 := wr_all (chs := chs) hA.1 (i := 0) (by omega)
  have w1 := wr_all (chs := chs) hA.1 (i := 1) (by omega)
  have s0 := wr_stand (cs := cs) (chs := chs) (k := 11) (i := 0) (by omega)
  have s1 := wr_stand (cs := cs) (chs := chs) (k := 11) (i := 1) (by omega)
  have n1 := news_1 hA hc
  rw [cl_bank (by omega)] at n1
  simp only [Nat.add_zero, if_true] at w0 s0
  rw [if_neg (by omega), n1] at w1
  rcases other_stand cs with ⟨a, b⟩ | ⟨a, b⟩ <;> simp only [a, b, Nat.zero_mul, Nat.one_mul, Nat.zero_add, Nat.reduceAdd, Nat.reduceSub] at w0 w1 s0 s1 hw ⊢
  · unfold stand
    rw [if_neg]
    intro z
    exact z.2 ⟨w0, by omega⟩
  · unfold stand
    rw [if_pos]
    exact ⟨w0, fun z => by omega⟩
theorem bank_wr {cs : List Int} {chs : List (Nat × Int)} (hA : Any cs) (hc : Chs chs) : bank (wr cs (stepsOf cs chs) 11) = news cs chs := by
  have hl : (wr cs (stepsOf cs chs) 11).length = 20 := by rw [wr_len]; exact hA.1
  refine ext_cl (by rw [bank_len hl, news_len hA.1]) fun i hi => ?_
  rw [bank_len hl] at hi
  rw [cl_bank hi, stand_wr hA hc]
  have : (1 - stand cs) * 10 = other cs := rfl
  rw [this, wr_all hA.1 hi]
  by_cases h : i = 0
  · rw [if_pos h, h, news_0 hA hc]
  · rw [if_neg h]
/-- cut off ahead of the last step, the bank that stood stands -/
theorem stand_wr_cut {cs : List Int} {chs : List (Nat × Int)} (hA : Any cs) {k : Nat} (hk : k < 11) : stand (wr cs (stepsOf cs chs) k) = stand cs := by
  cases k with
  | zero => rfl
  | succ k =>
    have hw := stand_whole hA
    have w0 := wr_do (chs := chs) hA.1 k (by omega) 0 (by omega)
    have s0 := wr_stand (cs := cs) (chs := chs) (k := k + 1) (i := 0) (by omega)
    simp only [Nat.add_zero, if_true] at w0 s0
    rcases other_stand cs with ⟨a, b⟩ | ⟨a, b⟩ <;> simp only [a, b, Nat.zero_mul, Nat.one_mul, Nat.zero_add, Nat.reduceAdd, Nat.reduceSub] at w0 s0 hw ⊢
    · unfold stand
      rw [if_pos ⟨s0.trans hw, fun z => by rw [w0] at z; exact absurd z.1 (by decide)⟩]
    · unfold stand
      rw [if_neg (fun z => by rw [w0] at z; exact absurd z.1 (by decide))]
theorem bank_wr_cut {cs : List Int} {chs : List (Nat × Int)} (hA : Any cs) {k : Nat} (hk : k < 11) : bank (wr cs (stepsOf cs chs) k) = bank cs := by
  have hl : (wr cs (stepsOf cs chs) k).length = 20 := by rw [wr_len]; exact hA.1
  refine ext_cl (by rw [bank_len hl, bank_len hA.1]) fun i hi => ?_
  rw [bank_len hl] at hi
  rw [cl_bank hi, cl_bank hi, stand_wr_cut hA hk, wr_stand hi]
end Fk
namespace Fk
open PySem PySem.Spec PyProof.Rows L2
local macro_rules | `(tactic| wtm_at "ln") => `(tactic| first
  | omega
  | (simp only [List.length_cons, List.length_nil, List.length_map, List.length_append, List.length_replicate, List.length_take, List.length_drop, List.length_set]; omega)
  | (with_unfolding_all exact (by decide)))
local macro_rules | `(tactic| wtm_at "ar") => `(tactic| first
  | ((with_reducible show CMulW _ _); (refine' mulS ?_ ?_ <;> omega))
  | ((with_reducible show CDivW _ _); (refine' divS ?_ ?_ <;> omega))
  | ((with_reducible show CPow _ _); exact ⟨by decide, by decide, by decide⟩)
  | (show (0 : Int) < _; omega)
  | (with_unfolding_all exact (by decide)))
local macro_rules | `(tactic| wtm_at "at") => `(tactic| first
  | assumption
  | (refine' cl_atE ?e80 ?h80; (case' e80 => first | exact rfl | assumption); (case' h80 => wtm_at "ln"))
  | exact rfl)
local macro_rules | `(tactic| wtm_at "fr") => `(tactic| first
  | assumption
  | ((with_reducible refine' Mx.free0 ?m99 ?h99); (case' h99 => assumption); (case' m99 => wtm_at "mo")))
local macro_rules | `(tactic| wtm_at "hp") => `(tactic| first
  | assumption
  | ((with_reducible refine' Mx.get0 ?m1 ?h1); (case' m1 => assumption); (case' h1 => wtm_at "hp"))
  | ((with_reducible refine' Mx.get ?m2 ?n2 ?h2); (case' m2 => assumption); (case' n2 => wtm_at "nin"); (case' h2 => wtm_at "hp")))
local macro_rules | `(tactic| wtm_at "sl") => `(tactic| first
  | assumption
  | ((with_reducible refine' Mx.sqL0 ?m96 ?h96); (case' h96 => assumption); (case' m96 => wtm_at "mo"))
  | (refine' SqL.of ?h3; (case' h3 => wtm_at "hp"))
  | ((with_reducible refine' Mx.sqL0 ?m4 ?h4); (case' m4 => assumption); (case' h4 => wtm_at "sl"))
  | ((with_reducible refine' Mx.sqL ?m5 ?n5 ?h5); (case' m5 => assumption); (case' n5 => wtm_at "nin"); (case' h5 => wtm_at "sl")))
local macro_rules | `(tactic| wtm_at "st") => `(tactic| first
  | assumption
  | ((with_reducible refine' Mx.sqT0 ?m97 ?h97); (case' h97 => assumption); (case' m97 => wtm_at "mo"))
  | (refine' SqT.of ?h6; (case' h6 => wtm_at "hp"))
  | ((with_reducible refine' Mx.sqT0 ?m7 ?h7); (case' m7 => assumption); (case' h7 => wtm_at "st"))
  | ((with_reducible refine' Mx.sqT ?m8 ?n8 ?h8); (case' m8 => assumption); (case' n8 => wtm_at "nin"); (case' h8 => wtm_at "st")))
local macro_rules | `(tactic| wtm_at "mx") => `(tactic| first
  | assumption
  | exact Mx.refl
  | ((with_reducible refine' Mx.of0 ?h9); (case' h9 => assumption))
  | ((with_reducible refine' Mx.trans ?h10 ?m10); (case' m10 => first | assumption | ((with_reducible refine' Mx.of0 ?q10); (case' q10 => assumption))); (case' h10 => wtm_at "mx")))
local macro_rules | `(tactic| wtm_at "mo") => `(tactic| first
  | wtm_at "mx"
  | ((with_reducible refine' Mx.own ?m90 ?f90 ?k90); (case' k90 => assumption); (case' f90 => wtm_at "fr"); (case' m90 => wtm_at "mo"))
  | ((with_reducible refine' Mx.trans ?h91 ?m91); (case' m91 => first | assumption | ((with_reducible refine' Mx.of0 ?q91); (case' q91 => assumption))); (case' h91 => wtm_at "mo")))
local macro_rules | `(tactic| wtm_at "ne") => `(tactic| first
  | assumption
  | exact Ne.symm (by assumption)
  | ((with_reducible refine' ne_of_none ?x94 ?y94); (case' y94 => assumption); (case' x94 => wtm_at "hp"))
  | ((with_reducible refine' Ne.symm (ne_of_none ?x95 ?y95)); (case' y95 => assumption); (case' x95 => wtm_at "hp")))
local macro_rules | `(tactic| wtm_at "nin") => `(tactic| first
  | assumption
  | exact List.not_mem_nil
  | ((with_reducible refine' List.not_mem_cons_of_ne_of_not_mem ?h98 ?t98); (case' h98 => wtm_at "ne"); (case' t98 => wtm_at "nin")))
local macro_rules | `(tactic| wtm_at "g1") => `(tactic| first
  | ((with_reducible refine' g_var ?h11 ?k11); (case' h11 => exact rfl))
  | with_reducible refine' g_c ?_
  | with_reducible refine' g_op ?_
  | with_reducible refine' g_I0 ?_
  | ((with_reducible refine' g_I ?c12 ?k12); (case' c12 => wtm_at "ar"))
  | with_reducible refine' g_cons ?_
  | with_reducible refine' g_nil ?_
  | with_reducible refine' g_seq ?_
  | with_reducible refine' g_asg ?_
  | with_reducible refine' g_name ?_
  | with_reducible refine' g_ret ?_
  | with_reducible refine' g_if ?_
  | with_reducible refine' g_test ?_
  | with_reducible refine' g_tB ?_
  | with_reducible refine' g_bl ?_
  | ((with_reducible refine' g_eq ?h13 ?k13); (case' h13 => exact rfl))
  | ((with_reducible refine' g_ne ?h14 ?k14); (case' h14 => exact rfl))
  | with_reducible refine' g_CB ?_
  | with_reducible refine' g_call ?_
  | with_reducible refine' g_drop ?_
  | with_reducible refine' g_next ?_
  | with_reducible refine' g_not ?_
  | with_reducible refine' g_and ?_
  | with_reducible refine' g_or ?_
  | with_reducible refine' g_un ?_
  | with_reducible refine' g_U ?_
  | with_reducible refine' g_tup ?_
  | with_reducible refine' g_lst ?_
  | ((with_reducible refine' g_kNew ?h15 ?k15); (case' h15 => wtm_at "ln"); (case' k15 => intro _ _ _ _ _))
  | ((with_reducible refine' g_ixL ?h16 ?a16 ?k16); (case' h16 => wtm_at "sl"); (case' a16 => wtm_at "at"))
  | ((with_reducible refine' g_ixT ?h17 ?a17 ?k17); (case' h17 => wtm_at "st"); (case' a17 => wtm_at "at"))
  | with_reducible refine' g_slice ?_
  | with_reducible refine' g_part ?_
  | with_reducible refine' g_kPart ?_
  | with_reducible refine' g_noPart ?_
  | ((with_reducible refine' g_slL ?h18 ?k18); (case' h18 => wtm_at "sl"); (case' k18 => intro _ _ _ _ _))
  | ((with_reducible refine' g_cat ?h119 ?h219 ?l19 ?k19); (case' h119 => wtm_at "hp"); (case' h219 => wtm_at "hp"); (case' l19 => wtm_at "ln"); (case' k19 => intro _ _ _ _ _))
  | ((with_reducible refine' g_rep ?h120 ?h220 ?h320 ?l20 ?k20); (case' h120 => wtm_at "hp"); (case' h220 => wtm_at "ln"); (case' h320 => wtm_at "ln"); (case' l20 => wtm_at "ln"); (case' k20 => intro _ _ _ _ _))
  | ((with_reducible refine' g_append ?h21 ?l21 ?k21); (case' h21 => wtm_at "hp"); (case' l21 => wtm_at "ln"); (case' k21 => intro _ _ _))
  | ((with_reducible refine' g_kBM ?h22 ?k22); (case' h22 => wtm_at "sl"))
  | ((with_reducible refine' g_kBM0 ?h23 ?k23); (case' h23 => wtm_at "sl"))
  | ((with_reducible refine' g_kL ?h24 ?k24); (case' h24 => wtm_at "sl"))
  | ((with_reducible refine' g_kR1 ?h125 ?h225 ?k25); (case' h125 => wtm_at "ln"); (case' h225 => wtm_at "ln"))
  | ((with_reducible refine' g_kR2 ?h126 ?h226 ?h326 ?h426 ?k26); (case' h126 => wtm_at "ln"); (case' h226 => wtm_at "ln"); (case' h326 => wtm_at "ln"); (case' h426 => wtm_at "ln"))
  | ((with_reducible refine' g_lenL ?h27 ?k27); (case' h27 => wtm_at "sl"))
  | ((with_reducible refine' g_lenT ?h28 ?k28); (case' h28 => wtm_at "st"))
  | ((with_reducible refine' g_listL ?h29 ?k29); (case' h29 => wtm_at "sl"); (case' k29 => intro _ _ _ _ _))
  | ((with_reducible refine' g_tupleL ?h30 ?k30); (case' h30 => wtm_at "sl"); (case' k30 => intro _ _ _ _ _))
  | with_reducible refine' g_max ?_
  | with_reducible refine' g_min ?_
  | with_reducible refine' g_intB ?_
  | with_reducible refine' g_fld ?_
  | with_reducible refine' g_put ?_
  | with_reducible refine' g_dget ?_
  | with_reducible refine' g_isN ?_
  | with_reducible refine' g_notN ?_
  | with_reducible refine' g_ifE ?_
  | with_reducible refine' g_andV ?_
  | with_reducible refine' g_orV ?_
  | with_reducible refine' g_notV ?_
  | with_reducible refine' g_kIf ?_
  | with_reducible refine' g_chain ?_
  | with_reducible refine' g_kCh ?_
  | with_reducible refine' g_sub ?_
  | ((with_reducible refine' g_setI ?h92 ?e92 ?j92 ?k92); (case' h92 => wtm_at "hp"); (case' e92 => first | exact rfl | assumption); (case' j92 => wtm_at "ln"); (case' k92 => intro _ _ _))
  | ((with_reducible refine' g_setL ?h89 ?i89 ?k89); (case' h89 => wtm_at "hp"); (case' i89 => exact ixE rfl (by wtm_at "ln")); (case' k89 => intro _ _ _))
  | ((with_reducible refine' g_gtup ?h93 ?e93 ?k93); (case' h93 => wtm_at "st"); (case' e93 => exact rfl))
  | with_reducible refine' g_gcons ?_
  | with_reducible refine' g_gnil ?_
  | with_reducible refine' g_par ?_
  | with_reducible refine' g_kPar ?_
  | with_reducible refine' g_meth ?_
  | with_reducible refine' g_bm ?_
  | with_reducible refine' g_bm0 ?_
  | with_reducible refine' g_raise ?_
  | with_reducible refine' g_for ?_
  | with_reducible refine' g_iR1 ?_
  | with_reducible refine' g_iR2 ?_
  | with_reducible refine' g_iL ?_
  | with_reducible refine' g_lc ?_
  | with_reducible refine' g_retN ?_
  | with_reducible refine' g_no (b := false) rfl ?_
  | with_reducible refine' g_yes (b := true) rfl ?_)
local macro_rules | `(tactic| wtm_at "go") => `(tactic| repeat (wtm_at "g1"))
local macro_rules | `(tactic| wtm_at "gs") => `(tactic| repeat ((fail_if_success (with_reducible refine' g_ifE ?_)); wtm_at "g1"))
local macro_rules | `(tactic| wtm_at "gi") => `(tactic| repeat ((fail_if_success (with_reducible refine' g_if ?_)); wtm_at "g1"))
local macro_rules | `(tactic| wtm_at "gr") => `(tactic| repeat ((fail_if_success (with_reducible refine' g_ret ?_)); wtm_at "g1"))
local macro_rules | `(tactic| wtm_at "gq") => `(tactic| repeat ((fail_if_success (with_reducible refine' g_asg ?_)); wtm_at "g1"))
/-! ### deeds -/
inductive Rf where
  | down | up | amount | code | short | bank | number | meter
  deriving DecidableEq
/-- the numbers of the bank that stands are of some size -/
def Sm (μ : Mt) : Prop := μ.num.natAbs < 2 ^ 200 ∧ μ.key.natAbs < 2 ^ 200 ∧ ∀ i, (bk μ i).natAbs < 2 ^ 200
def stampChs (μ : Mt) (a : Int) : List (Nat × Int) := [(2, bk μ 2 + a), (3, bk μ 3 - a), (8, bk μ 8 + 1), (9, a)]
def stampM (μ : Mt) (a : Int) (cut : Option Nat) : PyData × Mt :=
  match writeM μ (stampChs μ a) cut with
  | (none, μ1) => (.none, μ1)
  | (some left, μ1) => if (printM μ1 left).1 = true then (.int (bk μ 8 + 1), (printM μ1 left).2) else (.none, (printM μ1 left).2)
def stampR (μ : Mt) (a : Int) : Option Rf := if μ.up = false then some .down else if amt a = false then some .amount else if bk μ 3 < a then some .short else none
def topChs (μ : Mt) (z : Cd) : List (Nat × Int) := [(3, bk μ 3 + z.a), (4, bk μ 4 + z.a), (5, z.c)]
def topM (μ : Mt) (z : Cd) (cut : Option Nat) : PyData × Mt :=
  match writeM μ (topChs μ z) cut with
  | (none, μ1) => (.none, μ1)
  | (some _, μ1) => (.int z.a, μ1)
def topR (μ : Mt) (z : Cd) : Option Rf := if μ.up = false then some .down else if good μ.key z μ.num (bk μ 5 + 1) 1 = false then some .code else none
def backChs (μ : Mt) (a : Int) : List (Nat × Int) := [(3, bk μ 3 - a), (4, bk μ 4 - a), (6, bk μ 6 + 1), (7, a)]
def lastB (μ : Mt) : PyData := if 0 < bk μ 6 then cdD (mkCd μ.key μ.num (bk μ 6) (bk μ 7) 2) else .none
def backM (μ : Mt) (a : Int) (cut : Option Nat) : PyData × Mt :=
  match writeM μ (backChs μ a) cut with
  | (none, μ1) => (.none, μ1)
  | (some _, μ1) => (lastB μ1, μ1)
def upM (μ : Mt) (cut : Option Nat) : PyData × Mt := if (printM μ cut).1 = true then (.bool true, { (printM μ cut).2 with up := true }) else (.none, (printM μ cut).2)
theorem stampChs_ok (μ : Mt) (a : Int) : Chs (stampChs μ a) := by intro c hc; simp [stampChs] at hc; rcases hc with rfl | rfl | rfl | rfl <;> simp
theorem topChs_ok (μ : Mt) (z : Cd) : Chs (topChs μ z) := by intro c hc; simp [topChs] at hc; rcases hc with rfl | rfl | rfl <;> simp
theorem backChs_ok (μ : Mt) (a : Int) : Chs (backChs μ a) := by intro c hc; simp [backChs] at hc; rcases hc with rfl | rfl | rfl | rfl <;> simp
theorem writeM_any {μ : Mt} {chs : List (Nat × Int)} {cut : Option Nat} (h : Any μ.cells) : Any (writeM μ chs cut).2.cells := by
  unfold writeM
  split
  · split <;> exact any_wr h
  · exact any_wr h
theorem writeM_st {μ : Mt} {chs : List (Nat × Int)} {cut : Option Nat} : (writeM μ chs cut).2.stamps = μ.stamps := by
  unfold writeM
  split
  · split <;> rfl
  · rfl
theorem writeM_cases (μ : Mt) (chs : List (Nat × Int)) (cut : Option Nat) : (∃ k, cut = some k ∧ k < 11 ∧ writeM μ chs cut = (none, { μ with cells := wr μ.cells (stepsOf μ.cells chs) k, up := false })) ∨
    ((∀ k, cut = some k → 11 ≤ k) ∧ writeM μ chs cut = (some (cut.map fun k => k - 11), { μ with cells := wr μ.cells (stepsOf μ.cells chs) 11 })) := by
  cases cut with
  | none => exact .inr ⟨(fun _ h => nomatch h), rfl⟩
  | some k =>
    by_cases h : k < 11
    · exact .inl ⟨k, rfl, h, by simp only [writeM, if_pos h]⟩
    · exact .inr ⟨fun _ e => by cases e; omega, by simp only [writeM, if_neg h, Option.map_some]⟩
theorem bk_wr {μ : Mt} {chs : List (Nat × Int)} (hA : Any μ.cells) (hc : Chs chs) (i : Nat) : bk { μ with cells := wr μ.cells (stepsOf μ.cells chs) 11 } i = cl (news μ.cells chs) i := by
  unfold bk
  rw [bank_wr hA hc]
theorem scal_m1 : scal (V.int (-1)) (V.int (-1)) = true := rfl
section
variable {P : Program} {w : World} {K : PySem.W.Frag} {mg : Str → Option Value} {base : Heap}
def Rf.at (T : Tx K mg) : Rf → Addr
  | .down => T.E_Down
  | .up => T.E_Up
  | .amount => T.E_BadAmount
  | .code => T.E_BadCode
  | .short => T.E_Short
  | .bank => T.E_NoBank
  | .number => T.E_BadNumber
  | .meter => T.E_NoMeter
local macro_rules | `(tactic| wtm_at "g1") => `(tactic| first
  | ((with_reducible refine' g_fOwn (by assumption) ?h201 ?k201); (case' h201 => wtm_at "hp"))
  | ((with_reducible refine' g_fKey (by assumption) ?h202 ?k202); (case' h202 => wtm_at "hp"))
  | ((with_reducible refine' g_fMem (by assumption) ?h203 ?k203); (case' h203 => wtm_at "hp"))
  | ((with_reducible refine' g_fPri (by assumption) ?h204 ?k204); (case' h204 => wtm_at "hp"))
  | ((with_reducible refine' g_fAwa (by assumption) ?h205 ?k205); (case' h205 => wtm_at "hp"))
  | ((with_reducible refine' g_pAwa (by assumption) ?h206 ?k206); (case' h206 => wtm_at "hp"); (case' k206 => intro _ _ _))
  | ((with_reducible refine' g_kMeth ?h207 ?l207 ?k207); (case' h207 => wtm_at "hp"); (case' l207 => exact rfl)))

theorem g_neL {c : Option (Option Nat)} {H : Hp} {Q : VK} (k : Q (.bl (!decide (c = none))) H) : rNe (leftV c) (.int (-1)) H Q := by
  refine g_ne (scal_left c) ?_
  have : decide (leftV c = V.int (-1)) = decide (c = none) := by
    cases c with
    | none => rfl
    | some c => cases c with
      | none => rfl
      | some k =>
        simp [leftV, cutO]
  rw [this]
  exact k
/-- last_back -/
def spLastBack (T : Tx K mg) : Sp := fun vs H Q _ => ∃ (p pm pp : Addr) (μ : Mt), vs = [.ref p] ∧ MetAt K T.C_Meter H p pm pp μ ∧ Any μ.cells ∧ Bd μ.key ∧ Bd μ.num ∧ Bd (bk μ 6) ∧ Bd (bk μ 7) ∧ ∀ v H', Mx [] H H' → Dp K H' v (lastB μ) → Q v H'
theorem mt_Meter_last_back (T : Tx K mg) : Me P w K mg base 3 T.C_Meter "last_back" (spLastBack T) [] := by
  refine T.m_Meter_last_back.me T.cls_Meter sc_Meter_last_back (fun vs H Q E h => ?_) (fun cdv A outer s H vs Q E hr h => ?_)
  · obtain ⟨_, _, _, _, rfl, _⟩ := h
    rfl
  · obtain ⟨p, pm, pp, μ, rfl, ⟨⟨dx, ob⟩, me, pr, ne⟩, hA, b1, b2, b3, b4, q⟩ := h
    have hl := hA.1
    have hb := bank_len hl
    refine ⟨_, (pss_cons (ps_set (i := 1) sc_Meter_last_back.nd rfl (Or.inl rfl) (q_call (c_bank_of T) hr (by decide) rfl (passes_call (takes_of rfl rfl rfl rfl) (fun _ _ _ _ h => h)) (pa_cons (fldK K (pv 0) rfl) pa_nil)))
      (pss_one (ps_ret (pe_ifExp (pt_cmpR op_gt (pe_ix (ixL K) (pv 1) (q_const T.g_BACKS rfl) (fun _ _ => rfl)) pe_int (by first | exact nomark _ | rfl)) (q_call (c_code_of T) hr (by decide) rfl (passes_call (takes_of rfl rfl rfl rfl) (fun _ _ _ _ h => h)) (pa_cons (fldK K (pv 0) rfl) (pa_cons (fldK K (pv 0) rfl) (pa_cons (pe_ix (ixL K) (pv 1) (q_const T.g_BACKS rfl) (fun _ _ => rfl)) (pa_cons (pe_ix (ixL K) (pv 1) (q_const T.g_GIVEN rfl) (fun _ _ => rfl)) (pa_cons (q_const T.g_BACK rfl) pa_nil)))))) pe_non)))), ?_⟩
    wtm_at "go"
    refine ⟨pm, μ.cells, rfl, by wtm_at "sl", by omega, fun _ b H1 n1 m1 e1 => ?_, fun z => absurd hA z⟩
    wtm_at "go"
    refine g_ite (fun e => ?_) (fun e => ?_)
    · have el : lastB μ = cdD (mkCd μ.key μ.num (bk μ 6) (bk μ 7) 2) := if_pos (by simpa [bk] using e)
      rw [el] at q
      wtm_at "go"
      refine ⟨_, _, _, _, _, rfl, b1, b2, b3, b4, (by omega), fun t H2 n2 m2 e2 => ?_⟩
      refine q _ _ (by wtm_at "mo") ?_
      exact .tup (.of e2) (.cons (.int _) (.cons (.int _) (.cons (.int _) (.cons (.int _) .nil))))
    · have el : lastB μ = .none := if_neg (by simpa [bk] using e)
      rw [el] at q
      wtm_at "go"
      exact q _ _ (by wtm_at "mo") .non
/-- stamp -/
def spStamp (T : Tx K mg) : Sp := fun vs H Q E => ∃ (p pm pp : Addr) (μ : Mt) (a : Int) (cut : Option Nat), vs = [.ref p, .int a, cutO cut] ∧ MetAt K T.C_Meter H p pm pp μ ∧ Any μ.cells ∧ μ.stamps.length < 1000 ∧
  (∀ r, stampR μ a = some r → ∀ H', Mx [] H H' → E (.ref (r.at T)) none H') ∧ (stampR μ a = none → ∀ v H', Mx [p, pm, pp] H H' → MetAt K T.C_Meter H' p pm pp (stampM μ a cut).2 → Dp K H' v (stampM μ a cut).1 → Q v H')
theorem ok_stamp (T : Tx K mg) : FnOk P w K mg base (L2.CX P w) 5 T.m_Meter_stamp.a T.m_Meter_stamp.d ["self", "amount", "cut"] (spStamp T) := by
  refine T.m_Meter_stamp.ok sc_Meter_stamp (fun vs H Q E h => ?_) (fun cdv A outer s H vs Q E hr h => ?_)
  · obtain ⟨_, _, _, _, _, _, rfl, _⟩ := h
    rfl
  · obtain ⟨p, pm, pp, μ, a, cut, rfl, M, hA, hst, q1, q2⟩ := h
    have M0 := M
    obtain ⟨⟨dx, ob⟩, me, ⟨ws, pr, dp⟩, ne⟩ := M
    have hl := hA.1
    have hb := bank_len hl
    have npm : p ≠ pm := M0.p_pm
    have npp : p ≠ pp := M0.p_pp
    refine ⟨_, (pss_cons (ps_expr (q_meth0 (mt_Meter_need_up T) hr (by decide) (pv 0) (passes_call (takes_of rfl rfl rfl rfl) (fun _ _ _ _ h => h))))
      (pss_cons (ps_expr (q_call (c_need_amount T) hr (by decide) rfl (passes_call (takes_of rfl rfl rfl rfl) (fun _ _ _ _ h => h)) (pa_cons (pv 1) pa_nil)))
      (pss_cons (ps_set (i := 3) sc_Meter_stamp.nd rfl (Or.inl rfl) (q_call (c_bank_of T) hr (by decide) rfl (passes_call (takes_of rfl rfl rfl rfl) (fun _ _ _ _ h => h)) (pa_cons (fldK K (pv 0) rfl) pa_nil)))
      (pss_cons (ps_if (pt_cmpR op_lt (pe_ix (ixL K) (pv 3) (q_const T.g_FALLING rfl) (fun _ _ => rfl)) (pv 1) (by first | exact nomark _ | rfl)) (pss_one (q_raise rfl (takes_of rfl rfl rfl rfl) T.x_Short rfl)) pss_nil)
      (pss_cons (ps_set (i := 4) sc_Meter_stamp.nd rfl (Or.inl rfl) (pe_op op_add (pe_ix (ixL K) (pv 3) (q_const T.g_STAMP rfl) (fun _ _ => rfl)) pe_int))
      (pss_cons (ps_set (i := 5) sc_Meter_stamp.nd rfl (Or.inl rfl) (pe_lst (pa_cons (pe_tup (pa_cons (q_const T.g_RISING rfl) (pa_cons (pe_op op_add (pe_ix (ixL K) (pv 3) (q_const T.g_RISING rfl) (fun _ _ => rfl)) (pv 1)) pa_nil))) (pa_cons (pe_tup (pa_cons (q_const T.g_FALLING rfl) (pa_cons (pe_op op_sub (pe_ix (ixL K) (pv 3) (q_const T.g_FALLING rfl) (fun _ _ => rfl)) (pv 1)) pa_nil))) (pa_cons (pe_tup (pa_cons (q_const T.g_STAMP rfl) (pa_cons (pv 4) pa_nil))) pa_nil)))))
      (pss_cons (ps_set (i := 6) sc_Meter_stamp.nd rfl (Or.inl rfl) (q_meth (mt_Meter_write T) hr (by decide) (pv 0) (passes_call (takes_of rfl rfl rfl rfl) (fun _ _ _ _ h => h)) (pa_cons (pe_op op_cat (pv 5) (pe_lst (pa_cons (pe_tup (pa_cons (q_const T.g_AMOUNT rfl) (pa_cons (pv 1) pa_nil))) pa_nil))) (pa_cons (pv 2) pa_nil))))
      (pss_one (ps_ret (pe_ifExp (PW.pt (pw_and (pt_cmpR op_ne (pv 6) (pe_un un_neg pe_int) (by first | exact nomark _ | rfl)) (pw_and1 (pt_val (q_meth (mt_Meter_print_owed T) hr (by decide) (pv 0) (passes_call (takes_of rfl rfl rfl rfl) (fun _ _ _ _ h => h)) (pa_cons (pv 6) pa_nil)))))) (pv 4) pe_non)))))))))), ?_⟩
    wtm_at "go"
    refine ⟨p, pm, pp, μ, rfl, M0, fun eu => ?_, fun eu => q1 .down (if_pos eu) _ Mx.refl⟩
    wtm_at "go"
    refine ⟨a, rfl, fun ea => ?_, fun ea => q1 .amount (by simp [stampR, eu, ea]) _ Mx.refl⟩
    wtm_at "go"
    refine ⟨pm, μ.cells, rfl, by wtm_at "sl", by omega, fun _ b H1 n1 m1 e1 => ?_, fun z => absurd hA z⟩
    wtm_at "go"
    refine g_ite (fun e => ?_) (fun e => ?_)
    · wtm_at "go"
      exact q1 .short (by simp [stampR, eu, ea]; simpa [bk] using e) _ (by wtm_at "mo")
    · have e0 : ¬ bk μ 3 < a := by simpa [bk] using e
      have q3 := q2 (by simp [stampR, eu, ea]; omega)
      wtm_at "go"
      refine ⟨p, pm, pp, _, μ, _, stampChs μ a, cut, rfl, M0.mx0 (by wtm_at "mo"), hA, by wtm_at "sl", ?_, fun c hc => (stampChs_ok μ a c hc).2, fun H9 m9 M9 => ?_⟩
      · show DpAll K _ [V.ref _, V.ref _, V.ref _, V.ref _] _
        exact .cons (.mkSt (s := (2, bk μ 2 + a)) (by wtm_at "st")) (.cons (.mkSt (s := (3, bk μ 3 - a)) (by wtm_at "st")) (.cons (.mkSt (s := (8, bk μ 8 + 1)) (by wtm_at "st")) (.cons (.mkSt (s := (9, a)) (by wtm_at "st")) .nil)))
      · wtm_at "go"
        refine g_neL ?_
        have n9 : Mx [p, pm, pp] H H9 := Mx.trans (by wtm_at "mo") (m9.mono (by simp))
        have hA9 : Any (writeM μ (stampChs μ a) cut).2.cells := writeM_any hA
        have hs9 : (writeM μ (stampChs μ a) cut).2.stamps.length < 1000 := by rw [writeM_st]; exact hst
        rcases writeM_cases μ (stampChs μ a) cut with ⟨k, ek, hk, ew⟩ | ⟨hk, ew⟩
        · have es : stampM μ a cut = (.none, (writeM μ (stampChs μ a) cut).2) := by simp only [stampM, ew]
          rw [es] at q3
          wtm_at "go"
          refine g_no (by simp [ew]) ?_
          wtm_at "go"
          exact q3 _ _ n9 M9 .non
        · have es : stampM μ a cut = if (printM (writeM μ (stampChs μ a) cut).2 (cut.map fun k => k - 11)).1 = true then (.int (bk μ 8 + 1), (printM (writeM μ (stampChs μ a) cut).2 (cut.map fun k => k - 11)).2) else (.none, (printM (writeM μ (stampChs μ a) cut).2 (cut.map fun k => k - 11)).2) := by simp only [stampM, ew]
          rw [es] at q3
          have el : leftV (writeM μ (stampChs μ a) cut).1 = cutO (cut.map fun k => k - 11) := by rw [ew]; rfl
          wtm_at "go"
          refine g_yes (by simp [ew]) ?_
          rw [el]
          obtain ⟨dx9, ob9⟩ := M9.ob
          wtm_at "go"
          refine ⟨p, pm, pp, _, cut.map fun k => k - 11, rfl, M9, hA9, hs9, fun H10 m10 M10 => ?_⟩
          have n10 : Mx [p, pm, pp] H H10 := n9.trans (m10.mono (by simp))
          wtm_at "go"
          refine g_ite (fun ep => ?_) (fun ep => ?_)
          · rw [if_pos ep] at q3
            wtm_at "go"
            exact q3 _ _ n10 M10 (.int _)
          · rw [if_neg (by simp [ep])] at q3
            wtm_at "go"
            exact q3 _ _ n10 M10 .non
theorem mt_Meter_stamp (T : Tx K mg) : Me P w K mg base 5 T.C_Meter "stamp" (spStamp T) [] := T.m_Meter_stamp.me T.cls_Meter (ok_stamp T)
theorem mt_Meter_stamp_d (T : Tx K mg) : Me P w K mg base 5 T.C_Meter "stamp" (spStamp T) [.non] := T.m_Meter_stamp.me1 T.cls_Meter (ok_stamp T)
/-- top_up -/
def spTopUp (T : Tx K mg) : Sp := fun vs H Q E => ∃ (p pm pp t : Addr) (μ : Mt) (z : Cd) (cut : Option Nat), vs = [.ref p, .ref t, cutO cut] ∧ MetAt K T.C_Meter H p pm pp μ ∧ Any μ.cells ∧ Sm μ ∧ H t = some (.tup z.vs) ∧
  (∀ r, topR μ z = some r → ∀ H', Mx [] H H' → E (.ref (r.at T)) none H') ∧ (topR μ z = none → ∀ v H', Mx [p, pm, pp] H H' → MetAt K T.C_Meter H' p pm pp (topM μ z cut).2 → Dp K H' v (topM μ z cut).1 → Q v H')
theorem ok_top_up (T : Tx K mg) : FnOk P w K mg base (L2.CX P w) 5 T.m_Meter_top_up.a T.m_Meter_top_up.d ["self", "code", "cut"] (spTopUp T) := by
  refine T.m_Meter_top_up.ok sc_Meter_top_up (fun vs H Q E h => ?_) (fun cdv A outer s H vs Q E hr h => ?_)
  · obtain ⟨_, _, _, _, _, _, _, rfl, _⟩ := h
    rfl
  · obtain ⟨p, pm, pp, t, μ, z, cut, rfl, M, hA, ⟨hs1, hs2, hs3⟩, ht, q1, q2⟩ := h
    have M0 := M
    obtain ⟨⟨dx, ob⟩, me, ⟨ws, pr, dp⟩, ne⟩ := M
    have hl := hA.1
    have hb := bank_len hl
    have h5 := hs3 5
    have npm : p ≠ pm := M0.p_pm
    have npp : p ≠ pp := M0.p_pp
    refine ⟨_, (pss_cons (ps_expr (q_meth0 (mt_Meter_need_up T) hr (by decide) (pv 0) (passes_call (takes_of rfl rfl rfl rfl) (fun _ _ _ _ h => h))))
      (pss_cons (ps_set (i := 3) sc_Meter_top_up.nd rfl (Or.inl rfl) (q_call (c_bank_of T) hr (by decide) rfl (passes_call (takes_of rfl rfl rfl rfl) (fun _ _ _ _ h => h)) (pa_cons (fldK K (pv 0) rfl) pa_nil)))
      (pss_cons (ps_if (pt_not (pt_val (q_call (c_is_good T) hr (by decide) rfl (passes_call (takes_of rfl rfl rfl rfl) (fun _ _ _ _ h => h)) (pa_cons (fldK K (pv 0) rfl) (pa_cons (pv 1) (pa_cons (fldK K (pv 0) rfl) (pa_cons (pe_op op_add (pe_ix (ixL K) (pv 3) (q_const T.g_TOPS rfl) (fun _ _ => rfl)) pe_int) (pa_cons (q_const T.g_TOP rfl) pa_nil)))))))) (pss_one (q_raise rfl (takes_of rfl rfl rfl rfl) T.x_BadCode rfl)) pss_nil)
      (pss_cons (ps_set (i := 4) sc_Meter_top_up.nd rfl (Or.inl rfl) (pe_lst (pa_cons (pe_tup (pa_cons (q_const T.g_FALLING rfl) (pa_cons (pe_op op_add (pe_ix (ixL K) (pv 3) (q_const T.g_FALLING rfl) (fun _ _ => rfl)) (pe_ix (ixT K) (pv 1) pe_int (fun _ _ => rfl))) pa_nil))) (pa_cons (pe_tup (pa_cons (q_const T.g_CREDIT rfl) (pa_cons (pe_op op_add (pe_ix (ixL K) (pv 3) (q_const T.g_CREDIT rfl) (fun _ _ => rfl)) (pe_ix (ixT K) (pv 1) pe_int (fun _ _ => rfl))) pa_nil))) (pa_cons (pe_tup (pa_cons (q_const T.g_TOPS rfl) (pa_cons (pe_ix (ixT K) (pv 1) pe_int (fun _ _ => rfl)) pa_nil))) pa_nil)))))
      (pss_one (ps_ret (pe_ifExp (pt_cmpR op_ne (q_meth (mt_Meter_write T) hr (by decide) (pv 0) (passes_call (takes_of rfl rfl rfl rfl) (fun _ _ _ _ h => h)) (pa_cons (pv 4) (pa_cons (pv 2) pa_nil))) (pe_un un_neg pe_int) (by first | exact nomark _ | rfl)) (pe_ix (ixT K) (pv 1) pe_int (fun _ _ => rfl)) pe_non))))))), ?_⟩
    wtm_at "go"
    refine ⟨p, pm, pp, μ, rfl, M0, fun eu => ?_, fun eu => q1 .down (if_pos eu) _ Mx.refl⟩
    wtm_at "go"
    refine ⟨pm, μ.cells, rfl, by wtm_at "sl", by omega, fun _ b H1 n1 m1 e1 => ?_, fun z => absurd hA z⟩
    wtm_at "go"
    refine ⟨μ.key, t, z, μ.num, bk μ 5 + 1, 1, rfl, m1.get0 ht, by omega, by omega, by omega, by omega, ?_⟩
    have ht1 : SqT K H1 t z.vs := .of (m1.get0 ht)
    obtain ⟨zm, zc, za, zs⟩ := z
    simp only [Cd.vs] at ht ht1
    wtm_at "go"
    refine g_ite (fun e => ?_) (fun e => ?_)
    · wtm_at "go"
      exact q1 .code (by simp [topR, eu]; simpa using e) _ (by wtm_at "mo")
    · have q3 := q2 (by simp [topR, eu]; simpa using e)
      wtm_at "go"
      refine ⟨p, pm, pp, _, μ, _, topChs μ ⟨zm, zc, za, zs⟩, cut, rfl, M0.mx0 (by wtm_at "mo"), hA, by wtm_at "sl", ?_, fun c hc => (topChs_ok μ _ c hc).2, fun H9 m9 M9 => ?_⟩
      · exact .cons (.mkSt (s := (3, bk μ 3 + za)) (by wtm_at "st")) (.cons (.mkSt (s := (4, bk μ 4 + za)) (by wtm_at "st")) (.cons (.mkSt (s := (5, zc)) (by wtm_at "st")) .nil))
      · wtm_at "go"
        refine g_neL ?_
        have n9 : Mx [p, pm, pp] H H9 := Mx.trans (by wtm_at "mo") (m9.mono (by simp))
        have ht9 : SqT K H9 t [.int zm, .int zc, .int za, .int zs] := .of (m9.get (by simp; exact ⟨(ne_of ob ht fun z => nomatch z).symm, (ne_of me ht fun z => nomatch z).symm⟩) (by wtm_at "hp"))
        rcases writeM_cases μ (topChs μ ⟨zm, zc, za, zs⟩) cut with ⟨k, ek, hk, ew⟩ | ⟨hk, ew⟩
        · have es : topM μ ⟨zm, zc, za, zs⟩ cut = (.none, (writeM μ (topChs μ ⟨zm, zc, za, zs⟩) cut).2) := by simp only [topM, ew]
          rw [es] at q3
          wtm_at "go"
          refine g_no (by simp [ew]) ?_
          wtm_at "go"
          exact q3 _ _ n9 M9 .non
        · have es : topM μ ⟨zm, zc, za, zs⟩ cut = (.int za, (writeM μ (topChs μ ⟨zm, zc, za, zs⟩) cut).2) := by simp only [topM, ew]
          rw [es] at q3
          wtm_at "go"
          refine g_yes (by simp [ew]) ?_
          wtm_at "go"
          exact q3 _ _ n9 M9 (.int _)
theorem mt_Meter_top_up (T : Tx K mg) : Me P w K mg base 5 T.C_Meter "top_up" (spTopUp T) [] := T.m_Meter_top_up.me T.cls_Meter (ok_top_up T)
theorem mt_Meter_top_up_d (T : Tx K mg) : Me P w K mg base 5 T.C_Meter "top_up" (spTopUp T) [.non] := T.m_Meter_top_up.me1 T.cls_Meter (ok_top_up T)
/-- give_back -/
def spGiveBack (T : Tx K mg) : Sp := fun vs H Q E => ∃ (p pm pp : Addr) (μ : Mt) (a : Int) (cut : Option Nat), vs = [.ref p, .int a, cutO cut] ∧ MetAt K T.C_Meter H p pm pp μ ∧ Any μ.cells ∧ Sm μ ∧
  (∀ r, stampR μ a = some r → ∀ H', Mx [] H H' → E (.ref (r.at T)) none H') ∧ (stampR μ a = none → ∀ v H', Mx [p, pm, pp] H H' → MetAt K T.C_Meter H' p pm pp (backM μ a cut).2 → Dp K H' v (backM μ a cut).1 → Q v H')
theorem ok_give_back (T : Tx K mg) : FnOk P w K mg base (L2.CX P w) 5 T.m_Meter_give_back.a T.m_Meter_give_back.d ["self", "amount", "cut"] (spGiveBack T) := by
  refine T.m_Meter_give_back.ok sc_Meter_give_back (fun vs H Q E h => ?_) (fun cdv A outer s H vs Q E hr h => ?_)
  · obtain ⟨_, _, _, _, _, _, rfl, _⟩ := h
    rfl
  · obtain ⟨p, pm, pp, μ, a, cut, rfl, M, hA, ⟨hs1, hs2, hs3⟩, q1, q2⟩ := h
    have M0 := M
    obtain ⟨⟨dx, ob⟩, me, ⟨ws, pr, dp⟩, ne⟩ := M
    have hl := hA.1
    have hb := bank_len hl
    have npm : p ≠ pm := M0.p_pm
    have npp : p ≠ pp := M0.p_pp
    refine ⟨_, (pss_cons (ps_expr (q_meth0 (mt_Meter_need_up T) hr (by decide) (pv 0) (passes_call (takes_of rfl rfl rfl rfl) (fun _ _ _ _ h => h))))
      (pss_cons (ps_expr (q_call (c_need_amount T) hr (by decide) rfl (passes_call (takes_of rfl rfl rfl rfl) (fun _ _ _ _ h => h)) (pa_cons (pv 1) pa_nil)))
      (pss_cons (ps_set (i := 3) sc_Meter_give_back.nd rfl (Or.inl rfl) (q_call (c_bank_of T) hr (by decide) rfl (passes_call (takes_of rfl rfl rfl rfl) (fun _ _ _ _ h => h)) (pa_cons (fldK K (pv 0) rfl) pa_nil)))
      (pss_cons (ps_if (pt_cmpR op_lt (pe_ix (ixL K) (pv 3) (q_const T.g_FALLING rfl) (fun _ _ => rfl)) (pv 1) (by first | exact nomark _ | rfl)) (pss_one (q_raise rfl (takes_of rfl rfl rfl rfl) T.x_Short rfl)) pss_nil)
      (pss_cons (ps_set (i := 4) sc_Meter_give_back.nd rfl (Or.inl rfl) (pe_lst (pa_cons (pe_tup (pa_cons (q_const T.g_FALLING rfl) (pa_cons (pe_op op_sub (pe_ix (ixL K) (pv 3) (q_const T.g_FALLING rfl) (fun _ _ => rfl)) (pv 1)) pa_nil))) (pa_cons (pe_tup (pa_cons (q_const T.g_CREDIT rfl) (pa_cons (pe_op op_sub (pe_ix (ixL K) (pv 3) (q_const T.g_CREDIT rfl) (fun _ _ => rfl)) (pv 1)) pa_nil))) pa_nil))))
      (pss_cons (ps_set (i := 4) sc_Meter_give_back.nd rfl (Or.inl rfl) (pe_op op_cat (pv 4) (pe_lst (pa_cons (pe_tup (pa_cons (q_const T.g_BACKS rfl) (pa_cons (pe_op op_add (pe_ix (ixL K) (pv 3) (q_const T.g_BACKS rfl) (fun _ _ => rfl)) pe_int) pa_nil))) (pa_cons (pe_tup (pa_cons (q_const T.g_GIVEN rfl) (pa_cons (pv 1) pa_nil))) pa_nil)))))
      (pss_one (ps_ret (pe_ifExp (pt_cmpR op_ne (q_meth (mt_Meter_write T) hr (by decide) (pv 0) (passes_call (takes_of rfl rfl rfl rfl) (fun _ _ _ _ h => h)) (pa_cons (pv 4) (pa_cons (pv 2) pa_nil))) (pe_un un_neg pe_int) (by first | exact nomark _ | rfl)) (q_meth0 (mt_Meter_last_back T) hr (by decide) (pv 0) (passes_call (takes_of rfl rfl rfl rfl) (fun _ _ _ _ h => h))) pe_non))))))))), ?_⟩
    wtm_at "go"
    refine ⟨p, pm, pp, μ, rfl, M0, fun eu => ?_, fun eu => q1 .down (if_pos eu) _ Mx.refl⟩
    wtm_at "go"
    refine ⟨a, rfl, fun ea => ?_, fun ea => q1 .amount (by simp [stampR, eu, ea]) _ Mx.refl⟩
    wtm_at "go"
    refine ⟨pm, μ.cells, rfl, by wtm_at "sl", by omega, fun _ b H1 n1 m1 e1 => ?_, fun z => absurd hA z⟩
    wtm_at "go"
    refine g_ite (fun e => ?_) (fun e => ?_)
    · wtm_at "go"
      exact q1 .short (by simp [stampR, eu, ea]; simpa [bk] using e) _ (by wtm_at "mo")
    · have e0 : ¬ bk μ 3 < a := by simpa [bk] using e
      have q3 := q2 (by simp [stampR, eu, ea]; omega)
      wtm_at "go"
      refine ⟨p, pm, pp, _, μ, _, backChs μ a, cut, rfl, M0.mx0 (by wtm_at "mo"), hA, by wtm_at "sl", ?_, fun c hc => (backChs_ok μ a c hc).2, fun H9 m9 M9 => ?_⟩
      · show DpAll K _ [V.ref _, V.ref _, V.ref _, V.ref _] _
        exact .cons (.mkSt (s := (3, bk μ 3 - a)) (by wtm_at "st")) (.cons (.mkSt (s := (4, bk μ 4 - a)) (by wtm_at "st")) (.cons (.mkSt (s := (6, bk μ 6 + 1)) (by wtm_at "st")) (.cons (.mkSt (s := (7, a)) (by wtm_at "st")) .nil)))
      · wtm_at "go"
        refine g_neL ?_
        have n9 : Mx [p, pm, pp] H H9 := Mx.trans (by wtm_at "mo") (m9.mono (by simp))
        have hA9 : Any (writeM μ (backChs μ a) cut).2.cells := writeM_any hA
        rcases writeM_cases μ (backChs μ a) cut with ⟨k, ek, hk, ew⟩ | ⟨hk, ew⟩
        · have es : backM μ a cut = (.none, (writeM μ (backChs μ a) cut).2) := by simp only [backM, ew]
          rw [es] at q3
          wtm_at "go"
          refine g_no (by simp [ew]) ?_
          wtm_at "go"
          exact q3 _ _ n9 M9 .non
        · have es : backM μ a cut = (lastB (writeM μ (backChs μ a) cut).2, (writeM μ (backChs μ a) cut).2) := by simp only [backM, ew]
          rw [es] at q3
          obtain ⟨dx9, ob9⟩ := M9.ob
          have eb : ∀ i, bk (writeM μ (backChs μ a) cut).2 i = cl (news μ.cells (backChs μ a)) i := fun i => by rw [ew]; exact bk_wr hA (backChs_ok μ a) i
          have e6 : bk (writeM μ (backChs μ a) cut).2 6 = bk μ 6 + 1 := by
            rw [eb]
            simp only [news, backChs, List.foldl]
            rw [cl_set_ne (by omega), cl_set_eq (by simp [bank_len hl])]
          have e7 : bk (writeM μ (backChs μ a) cut).2 7 = a := by
            rw [eb]
            simp only [news, backChs, List.foldl]
            rw [cl_set_eq (by simp [bank_len hl])]
          have ek : (writeM μ (backChs μ a) cut).2.key = μ.key ∧ (writeM μ (backChs μ a) cut).2.num = μ.num := by rw [ew]; exact ⟨rfl, rfl⟩
          have h6 := hs3 6
          have ha2 := amt_iff.mp ea
          wtm_at "go"
          refine g_yes (by simp [ew]) ?_
          wtm_at "go"
          refine ⟨p, pm, pp, _, rfl, M9, hA9, by rw [ek.1]; omega, by rw [ek.2]; omega, by rw [e6]; omega, by rw [e7]; omega, fun v H10 m10 d10 => ?_⟩
          exact q3 _ _ (n9.trans m10.of0) (M9.mx0 m10) d10
theorem mt_Meter_give_back (T : Tx K mg) : Me P w K mg base 5 T.C_Meter "give_back" (spGiveBack T) [] := T.m_Meter_give_back.me T.cls_Meter (ok_give_back T)
theorem mt_Meter_give_back_d (T : Tx K mg) : Me P w K mg base 5 T.C_Meter "give_back" (spGiveBack T) [.non] := T.m_Meter_give_back.me1 T.cls_Meter (ok_give_back T)
/-- come_up -/
def spComeUp (T : Tx K mg) : Sp := fun vs H Q E => ∃ (p pm pp : Addr) (μ : Mt) (cut : Option Nat), vs = [.ref p, cutO cut] ∧ MetAt K T.C_Meter H p pm pp μ ∧ Any μ.cells ∧ μ.stamps.length < 1000 ∧
  (μ.up = true → E (.ref T.E_Up) none H) ∧ (μ.up = false → ∀ v H', Mx [p, pm, pp] H H' → MetAt K T.C_Meter H' p pm pp (upM μ cut).2 → Dp K H' v (upM μ cut).1 → Q v H')
theorem ok_come_up (T : Tx K mg) : FnOk P w K mg base (L2.CX P w) 5 T.m_Meter_come_up.a T.m_Meter_come_up.d ["self", "cut"] (spComeUp T) := by
  refine T.m_Meter_come_up.ok sc_Meter_come_up (fun vs H Q E h => ?_) (fun cdv A outer s H vs Q E hr h => ?_)
  · obtain ⟨_, _, _, _, _, rfl, _⟩ := h
    rfl
  · obtain ⟨p, pm, pp, μ, cut, rfl, M0, hA, hst, q1, q2⟩ := h
    obtain ⟨dx, ob⟩ := M0.ob
    have npm : p ≠ pm := M0.p_pm
    have npp : p ≠ pp := M0.p_pp
    refine ⟨_, (pss_cons (ps_if (pt_val (fldK K (pv 0) rfl)) (pss_one (q_raise rfl (takes_of rfl rfl rfl rfl) T.x_Up rfl)) pss_nil)
      (pss_cons (ps_if (pt_not (pt_val (q_meth (mt_Meter_print_owed T) hr (by decide) (pv 0) (passes_call (takes_of rfl rfl rfl rfl) (fun _ _ _ _ h => h)) (pa_cons (pv 1) pa_nil)))) (pss_one (ps_ret pe_non)) pss_nil)
      (pss_cons (psFld K (pv 0) pe_bl rfl)
      (pss_one (ps_ret pe_bl))))), ?_⟩
    wtm_at "go"
    refine g_ite (fun e => ?_) (fun e => ?_)
    · wtm_at "go"
      exact q1 e
    · have q3 := q2 e
      wtm_at "go"
      refine ⟨p, pm, pp, μ, cut, rfl, M0, hA, hst, fun H1 m1 M1 => ?_⟩
      wtm_at "go"
      refine g_ite (fun ep => ?_) (fun ep => ?_)
      · have ep2 : (printM μ cut).1 = false := by simpa using ep
        have es : upM μ cut = (.none, (printM μ cut).2) := by simp [upM, ep2]
        rw [es] at q3
        wtm_at "go"
        exact q3 _ _ (m1.mono (by simp)) M1 .non
      · have ep2 : (printM μ cut).1 = true := by simpa using ep
        have es : upM μ cut = (.bool true, { (printM μ cut).2 with up := true }) := by simp [upM, ep2]
        rw [es] at q3
        obtain ⟨⟨dx1, ob1⟩, me1, ⟨ws1, pr1, dp1⟩, ne1⟩ := M1
        wtm_at "go"
        rename_i H2 m2 e2
        refine q3 _ _ ((m1.mono (by simp)).trans (m2.mono (by simp))) ⟨⟨dx1, e2⟩, m2 _ _ me1 (by simpa using npm.symm), ⟨ws1, m2 _ _ pr1 (by simpa using npp.symm), m2.sts (noTupI ob1) dp1⟩, ne1⟩ (.bl _)
theorem mt_Meter_come_up (T : Tx K mg) : Me P w K mg base 5 T.C_Meter "come_up" (spComeUp T) [] := T.m_Meter_come_up.me T.cls_Meter (ok_come_up T)
theorem mt_Meter_come_up_d (T : Tx K mg) : Me P w K mg base 5 T.C_Meter "come_up" (spComeUp T) [.non] := T.m_Meter_come_up.me1 T.cls_Meter (ok_come_up T)
end
end Fk
namespace Fk
open PySem PySem.Spec PyProof.Rows L2
local macro_rules | `(tactic| wtm_at "ln") => `(tactic| first
  | omega
  | (simp only [List.length_cons, List.length_nil, List.length_map, List.length_append, List.length_replicate, List.length_take, List.length_drop, List.length_set]; omega)
  | (with_unfolding_all exact (by decide)))
local macro_rules | `(tactic| wtm_at "ar") => `(tactic| first
  | ((with_reducible show CMulW _ _); (refine' mulS ?_ ?_ <;> omega))
  | ((with_reducible show CDivW _ _); (refine' divS ?_ ?_ <;> omega))
  | ((with_reducible show CPow _ _); exact ⟨by decide, by decide, by decide⟩)
  | (show (0 : Int) < _; omega)
  | (with_unfolding_all exact (by decide)))
local macro_rules | `(tactic| wtm_at "at") => `(tactic| first
  | assumption
  | (refine' cl_atE ?e80 ?h80; (case' e80 => first | exact rfl | assumption); (case' h80 => wtm_at "ln"))
  | exact rfl)
local macro_rules | `(tactic| wtm_at "fr") => `(tactic| first
  | assumption
  | ((with_reducible refine' Mx.free0 ?m99 ?h99); (case' h99 => assumption); (case' m99 => wtm_at "mo")))
local macro_rules | `(tactic| wtm_at "hp") => `(tactic| first
  | assumption
  | ((with_reducible refine' Mx.get0 ?m1 ?h1); (case' m1 => assumption); (case' h1 => wtm_at "hp"))
  | ((with_reducible refine' Mx.get ?m2 ?n2 ?h2); (case' m2 => assumption); (case' n2 => wtm_at "nin"); (case' h2 => wtm_at "hp")))
local macro_rules | `(tactic| wtm_at "sl") => `(tactic| first
  | assumption
  | ((with_reducible refine' Mx.sqL0 ?m96 ?h96); (case' h96 => assumption); (case' m96 => wtm_at "mo"))
  | (refine' SqL.of ?h3; (case' h3 => wtm_at "hp"))
  | ((with_reducible refine' Mx.sqL0 ?m4 ?h4); (case' m4 => assumption); (case' h4 => wtm_at "sl"))
  | ((with_reducible refine' Mx.sqL ?m5 ?n5 ?h5); (case' m5 => assumption); (case' n5 => wtm_at "nin"); (case' h5 => wtm_at "sl")))
local macro_rules | `(tactic| wtm_at "st") => `(tactic| first
  | assumption
  | ((with_reducible refine' Mx.sqT0 ?m97 ?h97); (case' h97 => assumption); (case' m97 => wtm_at "mo"))
  | (refine' SqT.of ?h6; (case' h6 => wtm_at "hp"))
  | ((with_reducible refine' Mx.sqT0 ?m7 ?h7); (case' m7 => assumption); (case' h7 => wtm_at "st"))
  | ((with_reducible refine' Mx.sqT ?m8 ?n8 ?h8); (case' m8 => assumption); (case' n8 => wtm_at "nin"); (case' h8 => wtm_at "st")))
local macro_rules | `(tactic| wtm_at "mx") => `(tactic| first
  | assumption
  | exact Mx.refl
  | ((with_reducible refine' Mx.of0 ?h9); (case' h9 => assumption))
  | ((with_reducible refine' Mx.trans ?h10 ?m10); (case' m10 => first | assumption | ((with_reducible refine' Mx.of0 ?q10); (case' q10 => assumption))); (case' h10 => wtm_at "mx")))
local macro_rules | `(tactic| wtm_at "mo") => `(tactic| first
  | wtm_at "mx"
  | ((with_reducible refine' Mx.own ?m90 ?f90 ?k90); (case' k90 => assumption); (case' f90 => wtm_at "fr"); (case' m90 => wtm_at "mo"))
  | ((with_reducible refine' Mx.trans ?h91 ?m91); (case' m91 => first | assumption | ((with_reducible refine' Mx.of0 ?q91); (case' q91 => assumption))); (case' h91 => wtm_at "mo")))
local macro_rules | `(tactic| wtm_at "ne") => `(tactic| first
  | assumption
  | exact Ne.symm (by assumption)
  | ((with_reducible refine' ne_of_none ?x94 ?y94); (case' y94 => assumption); (case' x94 => wtm_at "hp"))
  | ((with_reducible refine' Ne.symm (ne_of_none ?x95 ?y95)); (case' y95 => assumption); (case' x95 => wtm_at "hp")))
local macro_rules | `(tactic| wtm_at "nin") => `(tactic| first
  | assumption
  | exact List.not_mem_nil
  | ((with_reducible refine' List.not_mem_cons_of_ne_of_not_mem ?h98 ?t98); (case' h98 => wtm_at "ne"); (case' t98 => wtm_at "nin")))
local macro_rules | `(tactic| wtm_at "g1") => `(tactic| first
  | ((with_reducible refine' g_var ?h11 ?k11); (case' h11 => exact rfl))
  | with_reducible refine' g_c ?_
  | with_reducible refine' g_op ?_
  | with_reducible refine' g_I0 ?_
  | ((with_reducible refine' g_I ?c12 ?k12); (case' c12 => wtm_at "ar"))
  | with_reducible refine' g_cons ?_
  | with_reducible refine' g_nil ?_
  | with_reducible refine' g_seq ?_
  | with_reducible refine' g_asg ?_
  | with_reducible refine' g_name ?_
  | with_reducible refine' g_ret ?_
  | with_reducible refine' g_if ?_
  | with_reducible refine' g_test ?_
  | with_reducible refine' g_tB ?_
  | with_reducible refine' g_bl ?_
  | ((with_reducible refine' g_eq ?h13 ?k13); (case' h13 => exact rfl))
  | ((with_reducible refine' g_ne ?h14 ?k14); (case' h14 => exact rfl))
  | with_reducible refine' g_CB ?_
  | with_reducible refine' g_call ?_
  | with_reducible refine' g_drop ?_
  | with_reducible refine' g_next ?_
  | with_reducible refine' g_not ?_
  | with_reducible refine' g_and ?_
  | with_reducible refine' g_or ?_
  | with_reducible refine' g_un ?_
  | with_reducible refine' g_U ?_
  | with_reducible refine' g_tup ?_
  | with_reducible refine' g_lst ?_
  | ((with_reducible refine' g_kNew ?h15 ?k15); (case' h15 => wtm_at "ln"); (case' k15 => intro _ _ _ _ _))
  | ((with_reducible refine' g_ixL ?h16 ?a16 ?k16); (case' h16 => wtm_at "sl"); (case' a16 => wtm_at "at"))
  | ((with_reducible refine' g_ixT ?h17 ?a17 ?k17); (case' h17 => wtm_at "st"); (case' a17 => wtm_at "at"))
  | with_reducible refine' g_slice ?_
  | with_reducible refine' g_part ?_
  | with_reducible refine' g_kPart ?_
  | with_reducible refine' g_noPart ?_
  | ((with_reducible refine' g_slL ?h18 ?k18); (case' h18 => wtm_at "sl"); (case' k18 => intro _ _ _ _ _))
  | ((with_reducible refine' g_cat ?h119 ?h219 ?l19 ?k19); (case' h119 => wtm_at "hp"); (case' h219 => wtm_at "hp"); (case' l19 => wtm_at "ln"); (case' k19 => intro _ _ _ _ _))
  | ((with_reducible refine' g_rep ?h120 ?h220 ?h320 ?l20 ?k20); (case' h120 => wtm_at "hp"); (case' h220 => wtm_at "ln"); (case' h320 => wtm_at "ln"); (case' l20 => wtm_at "ln"); (case' k20 => intro _ _ _ _ _))
  | ((with_reducible refine' g_append ?h21 ?l21 ?k21); (case' h21 => wtm_at "hp"); (case' l21 => wtm_at "ln"); (case' k21 => intro _ _ _))
  | ((with_reducible refine' g_kBM ?h22 ?k22); (case' h22 => wtm_at "sl"))
  | ((with_reducible refine' g_kBM0 ?h23 ?k23); (case' h23 => wtm_at "sl"))
  | ((with_reducible refine' g_kL ?h24 ?k24); (case' h24 => wtm_at "sl"))
  | ((with_reducible refine' g_kR1 ?h125 ?h225 ?k25); (case' h125 => wtm_at "ln"); (case' h225 => wtm_at "ln"))
  | ((with_reducible refine' g_kR2 ?h126 ?h226 ?h326 ?h426 ?k26); (case' h126 => wtm_at "ln"); (case' h226 => wtm_at "ln"); (case' h326 => wtm_at "ln"); (case' h426 => wtm_at "ln"))
  | ((with_reducible refine' g_lenL ?h27 ?k27); (case' h27 => wtm_at "sl"))
  | ((with_reducible refine' g_lenT ?h28 ?k28); (case' h28 => wtm_at "st"))
  | ((with_reducible refine' g_listL ?h29 ?k29); (case' h29 => wtm_at "sl"); (case' k29 => intro _ _ _ _ _))
  | ((with_reducible refine' g_tupleL ?h30 ?k30); (case' h30 => wtm_at "sl"); (case' k30 => intro _ _ _ _ _))
  | with_reducible refine' g_max ?_
  | with_reducible refine' g_min ?_
  | with_reducible refine' g_intB ?_
  | with_reducible refine' g_fld ?_
  | with_reducible refine' g_put ?_
  | with_reducible refine' g_dget ?_
  | with_reducible refine' g_isN ?_
  | with_reducible refine' g_notN ?_
  | with_reducible refine' g_ifE ?_
  | with_reducible refine' g_andV ?_
  | with_reducible refine' g_orV ?_
  | with_reducible refine' g_notV ?_
  | with_reducible refine' g_kIf ?_
  | with_reducible refine' g_chain ?_
  | with_reducible refine' g_kCh ?_
  | with_reducible refine' g_sub ?_
  | ((with_reducible refine' g_setI ?h92 ?e92 ?j92 ?k92); (case' h92 => wtm_at "hp"); (case' e92 => first | exact rfl | assumption); (case' j92 => wtm_at "ln"); (case' k92 => intro _ _ _))
  | ((with_reducible refine' g_setL ?h89 ?i89 ?k89); (case' h89 => wtm_at "hp"); (case' i89 => exact ixE rfl (by wtm_at "ln")); (case' k89 => intro _ _ _))
  | ((with_reducible refine' g_gtup ?h93 ?e93 ?k93); (case' h93 => wtm_at "st"); (case' e93 => exact rfl))
  | with_reducible refine' g_gcons ?_
  | with_reducible refine' g_gnil ?_
  | with_reducible refine' g_par ?_
  | with_reducible refine' g_kPar ?_
  | with_reducible refine' g_meth ?_
  | with_reducible refine' g_bm ?_
  | with_reducible refine' g_bm0 ?_
  | with_reducible refine' g_raise ?_
  | with_reducible refine' g_for ?_
  | with_reducible refine' g_iR1 ?_
  | with_reducible refine' g_iR2 ?_
  | with_reducible refine' g_iL ?_
  | with_reducible refine' g_lc ?_
  | with_reducible refine' g_retN ?_
  | with_reducible refine' g_no (b := false) rfl ?_
  | with_reducible refine' g_yes (b := true) rfl ?_)
local macro_rules | `(tactic| wtm_at "go") => `(tactic| repeat (wtm_at "g1"))
local macro_rules | `(tactic| wtm_at "gs") => `(tactic| repeat ((fail_if_success (with_reducible refine' g_ifE ?_)); wtm_at "g1"))
local macro_rules | `(tactic| wtm_at "gi") => `(tactic| repeat ((fail_if_success (with_reducible refine' g_if ?_)); wtm_at "g1"))
local macro_rules | `(tactic| wtm_at "gr") => `(tactic| repeat ((fail_if_success (with_reducible refine' g_ret ?_)); wtm_at "g1"))
local macro_rules | `(tactic| wtm_at "gq") => `(tactic| repeat ((fail_if_success (with_reducible refine' g_asg ?_)); wtm_at "g1"))
section
variable {P : Program} {w : World} {K : PySem.W.Frag} {mg : Str → Option Value} {base : Heap}
/-- a new instance is made -/
def kMk (x : Addr) (Q : VK) : VK := fun v H2 => v = .non ∧ Q (.ref x) H2
theorem g_kMk {x : Addr} {Q : VK} {H : Hp} (k : Q (.ref x) H) : kMk x Q .non H := ⟨rfl, k⟩
def kMake (C : Addr) (sp : Sp) (dvs : List V) (E : XK) (Q : VK) : List V → Hp → Prop := fun vs H1 => ∀ x dx, H1 x = none → H1 dx = none → dx ≠ x →
  sp (.ref x :: (vs ++ dvs)) (upd (upd H1 dx (.own x)) x (.ins C dx [])) (fun v H2 => v = .non ∧ Q (.ref x) H2) E
theorem g_make {C : Addr} {sp : Sp} {dvs : List V} {E : XK} {t : TA} {σ : L2.St} {H : Hp} {Q : VK} (k : t σ H (kMake C sp dvs E Q)) : tMake C sp dvs E t σ H Q := k
theorem g_kMake {C : Addr} {sp : Sp} {dvs vs : List V} {E : XK} {H : Hp} {Q : VK} (k : ∀ x dx H', H x = none → Mx [] H H' → H' x = some (.ins C dx []) → sp (.ref x :: (vs ++ dvs)) H' (kMk x Q) E) : kMake C sp dvs E Q vs H := fun x dx nx nd _ => by
  refine k x dx _ nx (fun a o e _ => ?_) upd_same
  rw [upd_ne (ne_of_none e nx), upd_ne (ne_of_none e nd)]
  exact e
local macro_rules | `(tactic| wtm_at "g1") => `(tactic| first
  | ((with_reducible refine' g_fOwn (by assumption) ?h201 ?k201); (case' h201 => wtm_at "hp"))
  | ((with_reducible refine' g_fKey (by assumption) ?h202 ?k202); (case' h202 => wtm_at "hp"))
  | ((with_reducible refine' g_fMem (by assumption) ?h203 ?k203); (case' h203 => wtm_at "hp"))
  | ((with_reducible refine' g_fPri (by assumption) ?h204 ?k204); (case' h204 => wtm_at "hp"))
  | ((with_reducible refine' g_fAwa (by assumption) ?h205 ?k205); (case' h205 => wtm_at "hp"))
  | ((with_reducible refine' g_pAwa (by assumption) ?h206 ?k206); (case' h206 => wtm_at "hp"); (case' k206 => intro _ _ _))
  | ((with_reducible refine' g_kMeth ?h207 ?l207 ?k207); (case' h207 => wtm_at "hp"); (case' l207 => exact rfl)))

/-- recovered -/
def spRecovered (T : Tx K mg) : Sp := fun vs H Q E => ∃ (n k : Int) (a b : Addr) (cs : List Int) (us : List V) (ss : List (Int × Int)), vs = [.int n, .int k, .ref a, .ref b] ∧ SqL K H a (cs.map V.int) ∧ cs.length ≤ 100000 ∧ SqL K H b us ∧ DpAll K H us (ss.map stD) ∧
  (((1 ≤ n ∧ n ≤ 9999) ∧ (0 ≤ k ∧ k ≤ 999981)) → Any cs → ∀ p pm pp H', H p = none → H pm = none → H pp = none → Mx [] H H' → MetAt K T.C_Meter H' p pm pp ⟨n, k, cs, ss, false⟩ → Q (.ref p) H') ∧
  (¬ ((1 ≤ n ∧ n ≤ 9999) ∧ (0 ≤ k ∧ k ≤ 999981)) → ∀ H', Mx [] H H' → E (.ref T.E_BadNumber) none H') ∧
  (((1 ≤ n ∧ n ≤ 9999) ∧ (0 ≤ k ∧ k ≤ 999981)) → ¬ Any cs → ∀ H', Mx [] H H' → E (.ref T.E_NoBank) none H')
theorem c_recovered (T : Tx K mg) : Cl P w K mg base 4 "recovered" (spRecovered T) [] := by
  refine T.f_recovered.cl sc_recovered (fun vs H Q E h => ?_) (fun cdv A outer s H vs Q E hr h => ?_)
  · obtain ⟨_, _, _, _, _, _, _, rfl, _⟩ := h
    rfl
  · obtain ⟨n, k, a, b, cs, us, ss, rfl, hS, hl, hB, hD, q1, q2, q3⟩ := h
    refine ⟨_, (pss_cons (ps_set (i := 4) sc_recovered.nd rfl (Or.inl rfl) (q_make (mk_Meter T) hr (by decide) rfl (passes_call (takes_of rfl rfl rfl rfl) (fun _ _ _ _ h => h)) (pa_cons (pv 0) (pa_cons (pv 1) pa_nil))))
      (pss_cons (ps_expr (q_call (c_bank_of T) hr (by decide) rfl (passes_call (takes_of rfl rfl rfl rfl) (fun _ _ _ _ h => h)) (pa_cons (pv 2) pa_nil)))
      (pss_cons (psFld K (pv 4) (pe_callTy (cList K) (by rfl) T.n_list (by decide +kernel) (pa_cons (pv 2) pa_nil)) rfl)
      (pss_cons (psFld K (pv 4) (pe_callTy (cList K) (by rfl) T.n_list (by decide +kernel) (pa_cons (pv 3) pa_nil)) rfl)
      (pss_cons (psFld K (pv 4) pe_bl rfl)
      (pss_one (ps_ret (pv 4)))))))), ?_⟩
    wtm_at "go"
    refine g_make ?_
    wtm_at "go"
    refine g_kMake fun p dx H1 n1 m1 e1 => ?_
    refine ⟨p, dx, n, k, rfl, e1, fun hv pm pp H2 n2 n3 m2 M => g_kMk ?_, fun hv => q2 hv _ m1⟩
    have c2 : Mx [] H H2 := fun x o ex _ => m2 x o (m1.get0 ex) (by simp; exact ne_of_none ex n1)
    obtain ⟨⟨dx2, ob⟩, me, pr, ne⟩ := M
    wtm_at "go"
    refine ⟨a, cs, rfl, c2.sqL0 hS, hl, fun hA bb H3 n4 m3 e3 => ?_, fun hA => fun H3 m3 => q3 hv hA _ (c2.trans m3)⟩
    wtm_at "go"
    rename_i l H4 n5 m4 e4
    refine g_kPut (m4.get0 (m3.get0 ob)) T.cls_Meter T.na_Meter_memory rfl (by show 5 < 1000; decide) fun H5 m5 e5 => ?_
    wtm_at "go"
    rename_i l2 H6 n6 m6 e6
    refine g_kPut (m6.get0 e5) T.cls_Meter T.na_Meter_prints rfl (by show 5 < 1000; decide) fun H7 m7 e7 => ?_
    have e7' : H7 p = some (.ins T.C_Meter dx2 (mFlds ⟨n, k, cs, ss, true⟩ l l2)) := e7
    wtm_at "go"
    rename_i H8 m8 e8
    have f4 : H l = none := (c2.trans m3).free0 n5
    have c6 : Mx [] H H6 := fun x o ex _ => m6.get0 (m5 _ _ (m4.get0 (m3.get0 (c2.get0 ex))) (by simp; exact ne_of_none ex n1))
    have f6 : H l2 = none := by
      refine Mx.free0 (H' := H5) (fun x o ex _ => m5 _ _ (m4.get0 (m3.get0 (c2.get0 ex))) (by simp; exact ne_of_none ex n1)) n6
    have d1 : l ≠ p := (ne_of_none (m3.get0 ob) n5).symm
    have d2 : l2 ≠ p := (ne_of_none e5 n6).symm
    have g1 : H6 l = some (.lst (cs.map V.int)) := m6.get0 (m5 _ _ e4 (by simpa using d1))
    have d3 : l ≠ l2 := by
      rintro rfl
      have := m5 _ _ e4 (by simpa using d1)
      rw [n6] at this
      cases this
    refine q1 hv hA p l l2 H8 n1 f4 f6 (fun x o ex _ => ?_) ⟨⟨dx2, e8⟩, ?_, ⟨us, ?_, ?_⟩, d3⟩
    · have hx : x ≠ p := ne_of_none ex n1
      exact m8 _ _ (m7 _ _ (c6.get0 ex) (by simpa using hx)) (by simpa using hx)
    · exact m8 _ _ (m7 _ _ g1 (by simpa using d1)) (by simpa using d1)
    · exact m8 _ _ (m7 _ _ e6 (by simpa using d2)) (by simpa using d2)
    · exact m8.sts (noTupI e7) (m7.sts (noTupI (m6.get0 e5)) (hD.mx c6))
end
end Fk
namespace Fk
open PySem PySem.Spec PyProof.Rows L2
local macro_rules | `(tactic| wtm_at "ln") => `(tactic| first
  | omega
  | (simp only [List.length_cons, List.length_nil, List.length_map, List.length_append, List.length_replicate, List.length_take, List.length_drop, List.length_set]; omega)
  | (with_unfolding_all exact (by decide)))
local macro_rules | `(tactic| wtm_at "ar") => `(tactic| first
  | ((with_reducible show CMulW _ _); (refine' mulS ?_ ?_ <;> omega))
  | ((with_reducible show CDivW _ _); (refine' divS ?_ ?_ <;> omega))
  | ((with_reducible show CPow _ _); exact ⟨by decide, by decide, by decide⟩)
  | (show (0 : Int) < _; omega)
  | (with_unfolding_all exact (by decide)))
local macro_rules | `(tactic| wtm_at "at") => `(tactic| first
  | assumption
  | (refine' cl_atE ?e80 ?h80; (case' e80 => first | exact rfl | assumption); (case' h80 => wtm_at "ln"))
  | exact rfl)
local macro_rules | `(tactic| wtm_at "fr") => `(tactic| first
  | assumption
  | ((with_reducible refine' Mx.free0 ?m99 ?h99); (case' h99 => assumption); (case' m99 => wtm_at "mo")))
local macro_rules | `(tactic| wtm_at "hp") => `(tactic| first
  | assumption
  | ((with_reducible refine' Mx.get0 ?m1 ?h1); (case' m1 => assumption); (case' h1 => wtm_at "hp"))
  | ((with_reducible refine' Mx.get ?m2 ?n2 ?h2); (case' m2 => assumption); (case' n2 => wtm_at "nin"); (case' h2 => wtm_at "hp")))
local macro_rules | `(tactic| wtm_at "sl") => `(tactic| first
  | assumption
  | ((with_reducible refine' Mx.sqL0 ?m96 ?h96); (case' h96 => assumption); (case' m96 => wtm_at "mo"))
  | (refine' SqL.of ?h3; (case' h3 => wtm_at "hp"))
  | ((with_reducible refine' Mx.sqL0 ?m4 ?h4); (case' m4 => assumption); (case' h4 => wtm_at "sl"))
  | ((with_reducible refine' Mx.sqL ?m5 ?n5 ?h5); (case' m5 => assumption); (case' n5 => wtm_at "nin"); (case' h5 => wtm_at "sl")))
local macro_rules | `(tactic| wtm_at "st") => `(tactic| first
  | assumption
  | ((with_reducible refine' Mx.sqT0 ?m97 ?h97); (case' h97 => assumption); (case' m97 => wtm_at "mo"))
  | (refine' SqT.of ?h6; (case' h6 => wtm_at "hp"))
  | ((with_reducible refine' Mx.sqT0 ?m7 ?h7); (case' m7 => assumption); (case' h7 => wtm_at "st"))
  | ((with_reducible refine' Mx.sqT ?m8 ?n8 ?h8); (case' m8 => assumption); (case' n8 => wtm_at "nin"); (case' h8 => wtm_at "st")))
local macro_rules | `(tactic| wtm_at "mx") => `(tactic| first
  | assumption
  | exact Mx.refl
  | ((with_reducible refine' Mx.of0 ?h9); (case' h9 => assumption))
  | ((with_reducible refine' Mx.trans ?h10 ?m10); (case' m10 => first | assumption | ((with_reducible refine' Mx.of0 ?q10); (case' q10 => assumption))); (case' h10 => wtm_at "mx")))
local macro_rules | `(tactic| wtm_at "mo") => `(tactic| first
  | wtm_at "mx"
  | ((with_reducible refine' Mx.own ?m90 ?f90 ?k90); (case' k90 => assumption); (case' f90 => wtm_at "fr"); (case' m90 => wtm_at "mo"))
  | ((with_reducible refine' Mx.trans ?h91 ?m91); (case' m91 => first | assumption | ((with_reducible refine' Mx.of0 ?q91); (case' q91 => assumption))); (case' h91 => wtm_at "mo")))
local macro_rules | `(tactic| wtm_at "ne") => `(tactic| first
  | assumption
  | exact Ne.symm (by assumption)
  | ((with_reducible refine' ne_of_none ?x94 ?y94); (case' y94 => assumption); (case' x94 => wtm_at "hp"))
  | ((with_reducible refine' Ne.symm (ne_of_none ?x95 ?y95)); (case' y95 => assumption); (case' x95 => wtm_at "hp")))
local macro_rules | `(tactic| wtm_at "nin") => `(tactic| first
  | assumption
  | exact List.not_mem_nil
  | ((with_reducible refine' List.not_mem_cons_of_ne_of_not_mem ?h98 ?t98); (case' h98 => wtm_at "ne"); (case' t98 => wtm_at "nin")))
local macro_rules | `(tactic| wtm_at "g1") => `(tactic| first
  | ((with_reducible refine' g_var ?h11 ?k11); (case' h11 => exact rfl))
  | with_reducible refine' g_c ?_
  | with_reducible refine' g_op ?_
  | with_reducible refine' g_I0 ?_
  | ((with_reducible refine' g_I ?c12 ?k12); (case' c12 => wtm_at "ar"))
  | with_reducible refine' g_cons ?_
  | with_reducible refine' g_nil ?_
  | with_reducible refine' g_seq ?_
  | with_reducible refine' g_asg ?_
  | with_reducible refine' g_name ?_
  | with_reducible refine' g_ret ?_
  | with_reducible refine' g_if ?_
  | with_reducible refine' g_test ?_
  | with_reducible refine' g_tB ?_
  | with_reducible refine' g_bl ?_
  | ((with_reducible refine' g_eq ?h13 ?k13); (case' h13 => exact rfl))
  | ((with_reducible refine' g_ne ?h14 ?k14); (case' h14 => exact rfl))
  | with_reducible refine' g_CB ?_
  | with_reducible refine' g_call ?_
  | with_reducible refine' g_drop ?_
  | with_reducible refine' g_next ?_
  | with_reducible refine' g_not ?_
  | with_reducible refine' g_and ?_
  | with_reducible refine' g_or ?_
  | with_reducible refine' g_un ?_
  | with_reducible refine' g_U ?_
  | with_reducible refine' g_tup ?_
  | with_reducible refine' g_lst ?_
  | ((with_reducible refine' g_kNew ?h15 ?k15); (case' h15 => wtm_at "ln"); (case' k15 => intro _ _ _ _ _))
  | ((with_reducible refine' g_ixL ?h16 ?a16 ?k16); (case' h16 => wtm_at "sl"); (case' a16 => wtm_at "at"))
  | ((with_reducible refine' g_ixT ?h17 ?a17 ?k17); (case' h17 => wtm_at "st"); (case' a17 => wtm_at "at"))
  | with_reducible refine' g_slice ?_
  | with_reducible refine' g_part ?_
  | with_reducible refine' g_kPart ?_
  | with_reducible refine' g_noPart ?_
  | ((with_reducible refine' g_slL ?h18 ?k18); (case' h18 => wtm_at "sl"); (case' k18 => intro _ _ _ _ _))
  | ((with_reducible refine' g_cat ?h119 ?h219 ?l19 ?k19); (case' h119 => wtm_at "hp"); (case' h219 => wtm_at "hp"); (case' l19 => wtm_at "ln"); (case' k19 => intro _ _ _ _ _))
  | ((with_reducible refine' g_rep ?h120 ?h220 ?h320 ?l20 ?k20); (case' h120 => wtm_at "hp"); (case' h220 => wtm_at "ln"); (case' h320 => wtm_at "ln"); (case' l20 => wtm_at "ln"); (case' k20 => intro _ _ _ _ _))
  | ((with_reducible refine' g_append ?h21 ?l21 ?k21); (case' h21 => wtm_at "hp"); (case' l21 => wtm_at "ln"); (case' k21 => intro _ _ _))
  | ((with_reducible refine' g_kBM ?h22 ?k22); (case' h22 => wtm_at "sl"))
  | ((with_reducible refine' g_kBM0 ?h23 ?k23); (case' h23 => wtm_at "sl"))
  | ((with_reducible refine' g_kL ?h24 ?k24); (case' h24 => wtm_at "sl"))
  | ((with_reducible refine' g_kR1 ?h125 ?h225 ?k25); (case' h125 => wtm_at "ln"); (case' h225 => wtm_at "ln"))
  | ((with_reducible refine' g_kR2 ?h126 ?h226 ?h326 ?h426 ?k26); (case' h126 => wtm_at "ln"); (case' h226 => wtm_at "ln"); (case' h326 => wtm_at "ln"); (case' h426 => wtm_at "ln"))
  | ((with_reducible refine' g_lenL ?h27 ?k27); (case' h27 => wtm_at "sl"))
  | ((with_reducible refine' g_lenT ?h28 ?k28); (case' h28 => wtm_at "st"))
  | ((with_reducible refine' g_listL ?h29 ?k29); (case' h29 => wtm_at "sl"); (case' k29 => intro _ _ _ _ _))
  | ((with_reducible refine' g_tupleL ?h30 ?k30); (case' h30 => wtm_at "sl"); (case' k30 => intro _ _ _ _ _))
  | with_reducible refine' g_max ?_
  | with_reducible refine' g_min ?_
  | with_reducible refine' g_intB ?_
  | with_reducible refine' g_fld ?_
  | with_reducible refine' g_put ?_
  | with_reducible refine' g_dget ?_
  | with_reducible refine' g_isN ?_
  | with_reducible refine' g_notN ?_
  | with_reducible refine' g_ifE ?_
  | with_reducible refine' g_andV ?_
  | with_reducible refine' g_orV ?_
  | with_reducible refine' g_notV ?_
  | with_reducible refine' g_kIf ?_
  | with_reducible refine' g_chain ?_
  | with_reducible refine' g_kCh ?_
  | with_reducible refine' g_sub ?_
  | ((with_reducible refine' g_setI ?h92 ?e92 ?j92 ?k92); (case' h92 => wtm_at "hp"); (case' e92 => first | exact rfl | assumption); (case' j92 => wtm_at "ln"); (case' k92 => intro _ _ _))
  | ((with_reducible refine' g_setL ?h89 ?i89 ?k89); (case' h89 => wtm_at "hp"); (case' i89 => exact ixE rfl (by wtm_at "ln")); (case' k89 => intro _ _ _))
  | ((with_reducible refine' g_gtup ?h93 ?e93 ?k93); (case' h93 => wtm_at "st"); (case' e93 => exact rfl))
  | with_reducible refine' g_gcons ?_
  | with_reducible refine' g_gnil ?_
  | with_reducible refine' g_par ?_
  | with_reducible refine' g_kPar ?_
  | with_reducible refine' g_meth ?_
  | with_reducible refine' g_bm ?_
  | with_reducible refine' g_bm0 ?_
  | with_reducible refine' g_raise ?_
  | with_reducible refine' g_for ?_
  | with_reducible refine' g_iR1 ?_
  | with_reducible refine' g_iR2 ?_
  | with_reducible refine' g_iL ?_
  | with_reducible refine' g_lc ?_
  | with_reducible refine' g_retN ?_
  | with_reducible refine' g_no (b := false) rfl ?_
  | with_reducible refine' g_yes (b := true) rfl ?_)
local macro_rules | `(tactic| wtm_at "go") => `(tactic| repeat (wtm_at "g1"))
local macro_rules | `(tactic| wtm_at "gs") => `(tactic| repeat ((fail_if_success (with_reducible refine' g_ifE ?_)); wtm_at "g1"))
local macro_rules | `(tactic| wtm_at "gi") => `(tactic| repeat ((fail_if_success (with_reducible refine' g_if ?_)); wtm_at "g1"))
local macro_rules | `(tactic| wtm_at "gr") => `(tactic| repeat ((fail_if_success (with_reducible refine' g_ret ?_)); wtm_at "g1"))
local macro_rules | `(tactic| wtm_at "gq") => `(tactic| repeat ((fail_if_success (with_reducible refine' g_asg ?_)); wtm_at "g1"))
/-! ### the law's own: drawing, codes, what a meter is -/
/-- where drawing stands: the list at r; H0: the heap at the law's entry, which stays -/
structure StAt (K : PySem.W.Frag) (H0 H : Hp) (r : Addr) : Prop where
  ex : ∃ (a : Addr) (ns : List Int) (i m l : Int), H r = some (.lst [.ref a, .int i, .int m, .int l]) ∧ SqL K H0 a (ns.map V.int) ∧ ns.length ≤ 63 ∧ 0 ≤ i ∧ 0 ≤ m ∧ m < 2147483647 ∧ 0 ≤ l
  fr : H0 r = none
  mx : Mx [] H0 H
theorem mx_fresh {S : List Addr} {H0 H H' : Hp} (m0 : Mx [] H0 H) (m : Mx S H H') (f : ∀ x ∈ S, H0 x = none) : Mx [] H0 H' := fun a o e _ =>
  m a o (m0.get0 e) fun z => by have := f a z; rw [e] at this; cases this
theorem StAt.mv {K : PySem.W.Frag} {S : List Addr} {H0 H H' : Hp} {r : Addr} (s : StAt K H0 H r) (m : Mx S H H') (f : ∀ x ∈ S, H0 x = none) (n : r ∉ S) : StAt K H0 H' r := by
  obtain ⟨⟨a, ns, i, mm, l, h, q⟩, fr, mx⟩ := s
  exact ⟨⟨a, ns, i, mm, l, m _ _ h n, q⟩, fr, mx_fresh mx m f⟩
theorem StAt.mx0 {K : PySem.W.Frag} {H0 H H' : Hp} {r : Addr} (s : StAt K H0 H r) (m : Mx [] H H') : StAt K H0 H' r := s.mv m (fun _ h => by simp at h) (by simp)
/-- the dict that tells what a meter is -/
def lmKvs (μ : Mt) (qc qs : Addr) : List (Key × V) := [(Sum.inr "number", .int μ.num), (Sum.inr "key", .int μ.key), (Sum.inr "cells", .ref qc), (Sum.inr "stamps", .ref qs), (Sum.inr "up", .bl μ.up)]
structure LmAt (K : PySem.W.Frag) (H : Hp) (q qc qs : Addr) (μ : Mt) : Prop where
  ob : H q = some (.dK (lmKvs μ qc qs))
  ce : H qc = some (.lst (μ.cells.map V.int))
  st : ∃ vs, H qs = some (.lst vs) ∧ DpAll K H vs (μ.stamps.map stD)
  ne : qc ≠ qs
theorem LmAt.mx {K : PySem.W.Frag} {S : List Addr} {H H' : Hp} {q qc qs : Addr} {μ : Mt} (M : LmAt K H q qc qs μ) (m : Mx S H H') (n : NoTup H S) (h1 : q ∉ S) (h2 : qc ∉ S) (h3 : qs ∉ S) : LmAt K H' q qc qs μ := by
  obtain ⟨ob, ce, ⟨vs, st, dp⟩, ne⟩ := M
  exact ⟨m _ _ ob h1, m _ _ ce h2, ⟨vs, m _ _ st h3, m.sts n dp⟩, ne⟩
theorem LmAt.mx0 {K : PySem.W.Frag} {H H' : Hp} {q qc qs : Addr} {μ : Mt} (M : LmAt K H q qc qs μ) (m : Mx [] H H') : LmAt K H' q qc qs μ := M.mx m noTup0 (by simp) (by simp) (by simp)
theorem LmAt.q_qc {K : PySem.W.Frag} {H : Hp} {q qc qs : Addr} {μ : Mt} (M : LmAt K H q qc qs μ) : q ≠ qc := ne_of M.ob M.ce fun z => nomatch z
theorem LmAt.q_qs {K : PySem.W.Frag} {H : Hp} {q qc qs : Addr} {μ : Mt} (M : LmAt K H q qc qs μ) : q ≠ qs := by
  obtain ⟨vs, st, _⟩ := M.st
  exact ne_of M.ob st fun z => nomatch z
theorem noTupD {H : Hp} {l : Addr} {xs : List (Key × V)} (h : H l = some (.dK xs)) : NoTup H [l] := fun x hx u e => by
  simp at hx; subst hx; rw [h] at e; cases e; exact ⟨(fun _ z => nomatch z), (fun _ _ z => nomatch z)⟩
theorem NoTup.cons {H : Hp} {x : Addr} {S : List Addr} (h : NoTup H [x]) (t : NoTup H S) : NoTup H (x :: S) := fun y hy u e => by
  rcases List.mem_cons.mp hy with rfl | hy
  · exact h _ (by simp) u e
  · exact t y hy u e
section
variable {P : Program} {w : World} {K : PySem.W.Frag} {mg : Str → Option Value} {base : Heap}
section
variable {D : Ends} {σ : L2.St} {H : Hp} {Q : VK} {x v y : V}
def kDPut (v : V) (x : V) (N : Hp → Prop) : VK := fun y H3 => ∃ a H4, x = .ref a ∧ DPut H3 a y v H4 ∧ N H4
theorem g_dput {td ty tv : TE} (k : tv σ H fun v H1 => td σ H1 fun x H2 => ty σ H2 (kDPut v x fun H4 => D.nx σ H4)) : sDPut td ty tv D σ H := k
theorem g_kDPutS {a : Addr} {z : Str} {kvs kvs' : List (Key × V)} {N : Hp → Prop} (h : H a = some (.dK kvs)) (e : putK kvs (Sum.inr z) v = kvs') (hl : kvs.length ≤ 100) (k : ∀ H', Mx [a] H H' → H' a = some (.dK kvs') → N H') : kDPut v (.ref a) N (.str z) H :=
  ⟨a, _, rfl, DPut.k (k := Sum.inr z) h (lineL (by omega)), k _ (.put (by simp)) (by rw [upd_same, e])⟩
theorem g_dNum {q qc qs : Addr} {μ : Mt} (h : H q = some (.dK (lmKvs μ qc qs))) (k : Q (.int μ.num) H) : kDGet (.ref q) Q (.str "number") H := g_kDGetS h rfl k
theorem g_dKey {q qc qs : Addr} {μ : Mt} (h : H q = some (.dK (lmKvs μ qc qs))) (k : Q (.int μ.key) H) : kDGet (.ref q) Q (.str "key") H := g_kDGetS h rfl k
theorem g_dCe {q qc qs : Addr} {μ : Mt} (h : H q = some (.dK (lmKvs μ qc qs))) (k : Q (.ref qc) H) : kDGet (.ref q) Q (.str "cells") H := g_kDGetS h rfl k
theorem g_dSt {q qc qs : Addr} {μ : Mt} (h : H q = some (.dK (lmKvs μ qc qs))) (k : Q (.ref qs) H) : kDGet (.ref q) Q (.str "stamps") H := g_kDGetS h rfl k
theorem g_dUp {q qc qs : Addr} {μ : Mt} (h : H q = some (.dK (lmKvs μ qc qs))) (k : Q (.bl μ.up) H) : kDGet (.ref q) Q (.str "up") H := g_kDGetS h rfl k
/-- a dict displayed -/
def vkey : V → Key
  | .str s => Sum.inr s
  | .int i => Sum.inl i
  | _ => Sum.inl 0
def kDisp (p : Addr) (Q : VK) : List (V × V) → Hp → Prop := fun ps H2 => H2 p = some (.dK []) ∧ ∃ kvs : List (Key × V), ps = kvs.map (fun kv => (kV kv.1, kv.2)) ∧ kvs.length ≤ 15 ∧ Q (.ref p) (upd H2 p (.dK (mergeK [] kvs)))
theorem g_disp {trs : List (TE × TE)} (k : ∀ p H', H p = none → Mx [] H H' → H' p = some (.dK []) → tPairs trs σ H' (kDisp p Q)) : tDisp trs σ H Q := fun p hp => k p _ hp (.new hp) upd_same
theorem g_pnil {QP : List (V × V) → Hp → Prop} (k : QP [] H) : tPairs [] σ H QP := k
theorem g_pcons {tk tv : TE} {r : List (TE × TE)} {QP : List (V × V) → Hp → Prop} (k : tk σ H fun x H1 => tv σ H1 fun y H2 => tPairs r σ H2 fun ps H3 => QP ((x, y) :: ps) H3) : tPairs ((tk, tv) :: r) σ H QP := k
theorem g_kDisp {p : Addr} {ps : List (V × V)} {kvs : List (Key × V)} (h : H p = some (.dK [])) (e : (ps.map fun z => (vkey z.1, z.2)).map (fun kv => (kV kv.1, kv.2)) = ps) (f : mergeK [] (ps.map fun z => (vkey z.1, z.2)) = kvs) (l : ps.length ≤ 15)
    (k : ∀ H', Mx [p] H H' → H' p = some (.dK kvs) → Q (.ref p) H') : kDisp p Q ps H :=
  ⟨h, ps.map fun z => (vkey z.1, z.2), e.symm, by rw [List.length_map]; exact l, k _ (.put (by simp)) (by rw [upd_same, f])⟩
theorem g_pUp {a qc qs : Addr} {μ : Mt} {b : Bool} {N : Hp → Prop} (h : H a = some (.dK (lmKvs μ qc qs))) (k : ∀ H', Mx [a] H H' → H' a = some (.dK (lmKvs { μ with up := b } qc qs)) → N H') : kDPut (.bl b) (.ref a) N (.str "up") H :=
  g_kDPutS h rfl (by show 5 ≤ 100; decide) k
theorem g_pSt {a qc qs l : Addr} {μ : Mt} {N : Hp → Prop} (h : H a = some (.dK (lmKvs μ qc qs))) (k : ∀ H', Mx [a] H H' → H' a = some (.dK (lmKvs μ qc l)) → N H') : kDPut (.ref l) (.ref a) N (.str "stamps") H :=
  g_kDPutS h rfl (by show 5 ≤ 100; decide) k
theorem g_pCe {a qc qs l : Addr} {μ : Mt} {N : Hp → Prop} (h : H a = some (.dK (lmKvs μ qc qs))) (k : ∀ H', Mx [a] H H' → H' a = some (.dK (lmKvs μ l qs)) → N H') : kDPut (.ref l) (.ref a) N (.str "cells") H :=
  g_kDPutS h rfl (by show 5 ≤ 100; decide) k
end
local macro_rules | `(tactic| wtm_at "g1") => `(tactic| first
  | ((with_reducible refine' g_fOwn (by assumption) ?h201 ?k201); (case' h201 => wtm_at "hp"))
  | ((with_reducible refine' g_fKey (by assumption) ?h202 ?k202); (case' h202 => wtm_at "hp"))
  | ((with_reducible refine' g_fMem (by assumption) ?h203 ?k203); (case' h203 => wtm_at "hp"))
  | ((with_reducible refine' g_fPri (by assumption) ?h204 ?k204); (case' h204 => wtm_at "hp"))
  | ((with_reducible refine' g_fAwa (by assumption) ?h205 ?k205); (case' h205 => wtm_at "hp"))
  | ((with_reducible refine' g_pAwa (by assumption) ?h206 ?k206); (case' h206 => wtm_at "hp"); (case' k206 => intro _ _ _))
  | ((with_reducible refine' g_kMeth ?h207 ?l207 ?k207); (case' h207 => wtm_at "hp"); (case' l207 => exact rfl)))

local macro_rules | `(tactic| wtm_at "g1") => `(tactic| first
  | ((with_reducible refine' g_dNum ?h311 ?k311); (case' h311 => wtm_at "hp"))
  | ((with_reducible refine' g_dKey ?h312 ?k312); (case' h312 => wtm_at "hp"))
  | ((with_reducible refine' g_dCe ?h313 ?k313); (case' h313 => wtm_at "hp"))
  | ((with_reducible refine' g_dSt ?h314 ?k314); (case' h314 => wtm_at "hp"))
  | ((with_reducible refine' g_dUp ?h315 ?k315); (case' h315 => wtm_at "hp"))
  | ((with_reducible refine' g_kDGetS ?h301 ?l301 ?k301); (case' h301 => wtm_at "hp"); (case' l301 => exact rfl))
  | (with_reducible refine' g_dput ?_)
  | (with_reducible refine' g_iK ?_)
  | ((with_reducible refine' g_disp ?k305); (case' k305 => intro _ _ _ _ _))
  | (with_reducible refine' g_pcons ?_)
  | (with_reducible refine' g_pnil ?_)
  | ((with_reducible refine' g_kDisp ?h306 ?e306 ?f306 ?l306 ?k306); (case' h306 => wtm_at "hp"); (case' e306 => exact rfl); (case' f306 => exact rfl); (case' l306 => wtm_at "ln"); (case' k306 => intro _ _ _))
  | ((with_reducible refine' g_pUp ?h302 ?k302); (case' h302 => wtm_at "hp"); (case' k302 => intro _ _ _))
  | ((with_reducible refine' g_pSt ?h303 ?k303); (case' h303 => wtm_at "hp"); (case' k303 => intro _ _ _))
  | ((with_reducible refine' g_pCe ?h304 ?k304); (case' h304 => wtm_at "hp"); (case' k304 => intro _ _ _)))

def spStart : Sp := fun vs H Q _ => ∃ (a : Addr) (ns : List Int), vs = [.ref a] ∧ SqL K H a (ns.map V.int) ∧ ns.length ≤ 63 ∧ ∀ r H', H r = none → Mx [] H H' → StAt K H H' r → Q (.ref r) H'
theorem c__law_start (T : Tx K mg) : Cl P w K mg base 1 "_law_start" (spStart (K := K)) [] := by
  refine T.f__law_start.cl sc__law_start (fun vs H Q E h => ?_) (fun cdv A outer s H vs Q E hr h => ?_)
  · obtain ⟨_, _, rfl, _⟩ := h
    rfl
  · obtain ⟨a, ns, rfl, hS, hl, q⟩ := h
    refine ⟨_, (pss_cons (ps_set (i := 1) sc__law_start.nd rfl (Or.inl rfl) pe_int)
      (pss_cons (ps_for (passes_of rfl) rfl (piL K (pv 0)) (pg_name (i := 2) sc__law_start.nd rfl (Or.inl rfl))
      (pss_one (ps_set (i := 1) sc__law_start.nd rfl (Or.inl rfl) (pe_op op_mod (pe_op op_add (pe_op op_add (pe_op op_mulW (pv 1) pe_int) (pv 2)) pe_int) pe_int))))
      (pss_one (ps_ret (pe_lst (pa_cons (pv 0) (pa_cons pe_int (pa_cons (pv 1) (pa_cons pe_int pa_nil))))))))), ?_⟩
    wtm_at "go"
    refine g_forL (xs := ns.map V.int) (fun i σ' H' => ∃ (m : Int) (x : Option V), σ' = [some (.ref a), some (.int m), x] ∧ 0 ≤ m ∧ m < 2147483647 ∧ H' = H)
      ⟨1, none, rfl, by omega, by omega, rfl⟩ (fun i σ' H' _ hP => ?_) (fun i x σ' H' hx hP => ?_) (fun σ' H' hP => ?_)
    · obtain ⟨_, _, _, _, _, rfl⟩ := hP
      exact hS
    · obtain ⟨m, x0, rfl, h0, h1, rfl⟩ := hP
      rw [List.getElem?_map, Option.map_eq_some_iff] at hx
      obtain ⟨c, hc, rfl⟩ := hx
      wtm_at "go"
      exact ⟨_, _, rfl, Int.emod_nonneg _ (by omega), Int.emod_lt_of_pos _ (by omega), rfl⟩
    · obtain ⟨m, x0, rfl, h0, h1, rfl⟩ := hP
      wtm_at "go"
      rename_i r H1 n1 m1 e1
      exact q r H1 n1 m1 ⟨⟨a, ns, 0, m, 0, e1, hS, hl, by omega, h0, h1, by omega⟩, n1, m1⟩
def spDrawn : Sp := fun vs H Q _ => ∃ (H0 : Hp) (r : Addr) (n : Int), vs = [.ref r, .int n] ∧ StAt K H0 H r ∧ 0 < n ∧ n < 2 ^ 300 ∧ ∀ x H', 0 ≤ x → x < n → Mx [r] H H' → StAt K H0 H' r → Q (.int x) H'
theorem c__law_drawn (T : Tx K mg) : Cl P w K mg base 1 "_law_drawn" (spDrawn (K := K)) [] := by
  refine T.f__law_drawn.cl sc__law_drawn (fun vs H Q E h => ?_) (fun cdv A outer s H vs Q E hr h => ?_)
  · obtain ⟨_, _, _, rfl, _⟩ := h
    rfl
  · obtain ⟨H0, r, n, rfl, ⟨⟨a, ns, i, m, l, e0, hS, hl, hi, hm0, hm1, hl0⟩, f0, m0⟩, hn0, hn1, q⟩ := h
    refine ⟨_, (pss_cons (ps_if (pt_cmpR op_gt (pe_ix (ixL K) (pv 0) pe_int (fun _ _ => rfl)) pe_int (by first | exact nomark _ | rfl)) (pss_cons (ps_set (i := 2) sc__law_drawn.nd rfl (Or.inl rfl) (pe_op op_mod (pe_ix (ixL K) (pv 0) pe_int (fun _ _ => rfl)) (pv 1)))
      (pss_cons (ps_asg (pe_op op_fdivW (pe_ix (ixL K) (pv 0) pe_int (fun _ _ => rfl)) (pv 1)) (pg_sub (pv 0) pe_int set_list))
      (pss_one (ps_ret (pv 2))))) pss_nil)
      (pss_cons (ps_asg (pe_op op_add (pe_ix (ixL K) (pv 0) pe_int (fun _ _ => rfl)) pe_int) (pg_sub (pv 0) pe_int set_list))
      (pss_cons (ps_if (pt_cmpR op_le (pe_ix (ixL K) (pv 0) pe_int (fun _ _ => rfl)) (pe_callB (cLen K) (by rfl) T.n_len (by decide +kernel) (pa_cons (pe_ix (ixL K) (pv 0) pe_int (fun _ _ => rfl)) pa_nil)) (by first | exact nomark _ | rfl)) (pss_cons (ps_set (i := 3) sc__law_drawn.nd rfl (Or.inl rfl) (pe_ix (ixL K) (pe_ix (ixL K) (pv 0) pe_int (fun _ _ => rfl)) (pe_op op_sub (pe_ix (ixL K) (pv 0) pe_int (fun _ _ => rfl)) pe_int) (fun _ _ => rfl)))
      (pss_cons (ps_asg (pe_ifExp (pt_cmpR op_ge (pv 3) (pe_op op_pow pe_int pe_int) (by first | exact nomark _ | rfl)) (pe_op op_fdivW (pv 3) (pv 1)) pe_int) (pg_sub (pv 0) pe_int set_list))
      (pss_one (ps_ret (pe_op op_mod (pv 3) (pv 1)))))) pss_nil)
      (pss_cons (ps_asg (pe_op op_mod (pe_op op_add (pe_op op_mulW (pe_ix (ixL K) (pv 0) pe_int (fun _ _ => rfl)) pe_int) pe_int) pe_int) (pg_sub (pv 0) pe_int set_list))
      (pss_one (ps_ret (pe_op op_mod (pe_op op_fdivW (pe_ix (ixL K) (pv 0) pe_int (fun _ _ => rfl)) pe_int) (pv 1)))))))), ?_⟩
    wtm_at "go"
    refine g_ite (fun e => ?_) (fun e => ?_)
    · wtm_at "go"
      rename_i H1 m1 e1
      exact q _ _ (Int.emod_nonneg _ (by omega)) (Int.emod_lt_of_pos _ (by omega)) m1 ⟨⟨a, ns, i, m, l / n, e1, hS, hl, hi, hm0, hm1, Int.ediv_nonneg hl0 (by omega)⟩, f0, by wtm_at "mo"⟩
    · wtm_at "go"
      rename_i H1 m1 e1
      refine g_ite (fun e2 => ?_) (fun e2 => ?_)
      · have e3 : i + 1 ≤ (ns.length : Int) := by simpa using e2
        have e4 : i + 1 - 1 = ((i.toNat : Nat) : Int) := by omega
        have e5 : i.toNat < ns.length := by omega
        wtm_at "go"
        refine g_ite (fun e6 => ?_) (fun e6 => ?_)
        · wtm_at "go"
          rename_i H2 m2 e7
          have h6 : 0 ≤ cl ns i.toNat := by
            have : (10 : Int) ^ (18 : Int).toNat ≤ cl ns i.toNat := by simpa using e6
            have h18 : (0 : Int) ≤ 10 ^ (18 : Int).toNat := by decide
            omega
          exact q _ _ (Int.emod_nonneg _ (by omega)) (Int.emod_lt_of_pos _ (by omega)) (m1.trans m2) ⟨⟨a, ns, i + 1, m, cl ns i.toNat / n, e7, hS, hl, by omega, hm0, hm1, Int.ediv_nonneg h6 (by omega)⟩, f0, by wtm_at "mo"⟩
        · wtm_at "go"
          rename_i H2 m2 e7
          exact q _ _ (Int.emod_nonneg _ (by omega)) (Int.emod_lt_of_pos _ (by omega)) (m1.trans m2) ⟨⟨a, ns, i + 1, m, 0, e7, hS, hl, by omega, hm0, hm1, by omega⟩, f0, by wtm_at "mo"⟩
      · wtm_at "go"
        rename_i H2 m2 e7
        exact q _ _ (Int.emod_nonneg _ (by omega)) (Int.emod_lt_of_pos _ (by omega)) (m1.trans m2) ⟨⟨a, ns, i + 1, _, l, e7, hS, hl, by omega, Int.emod_nonneg _ (by omega), Int.emod_lt_of_pos _ (by omega), hl0⟩, f0, by wtm_at "mo"⟩
/-- an amount -/
def spAmount : Sp := fun vs H Q _ => ∃ (H0 : Hp) (r : Addr), vs = [.ref r] ∧ StAt K H0 H r ∧ ∀ x H', 1 ≤ x → x ≤ 99999 → Mx [r] H H' → StAt K H0 H' r → Q (.int x) H'
theorem c__law_amount (T : Tx K mg) : Cl P w K mg base 2 "_law_amount" (spAmount (K := K)) [] := by
  refine T.f__law_amount.cl sc__law_amount (fun vs H Q E h => ?_) (fun cdv A outer s H vs Q E hr h => ?_)
  · obtain ⟨_, _, rfl, _⟩ := h
    rfl
  · obtain ⟨H0, r, rfl, S, q⟩ := h
    refine ⟨_, (pss_one (ps_ret (pe_op op_add pe_int (q_call (c__law_drawn T) hr (by decide) rfl (passes_call (takes_of rfl rfl rfl rfl) (fun _ _ _ _ h => h)) (pa_cons (pv 0) (pa_cons (pe_ix (ixL K) (pe_lst (pa_cons pe_int (pa_cons pe_int (pa_cons pe_int pa_nil)))) (q_call (c__law_drawn T) hr (by decide) rfl (passes_call (takes_of rfl rfl rfl rfl) (fun _ _ _ _ h => h)) (pa_cons (pv 0) (pa_cons pe_int pa_nil))) (fun _ _ => rfl)) pa_nil)))))), ?_⟩
    wtm_at "go"
    rename_i l H1 n1 m1 e1
    refine ⟨H0, r, 3, rfl, S.mx0 m1, by omega, by omega, fun x H2 x0 x1 m2 S2 => ?_⟩
    have ne : l ≠ r := by
      obtain ⟨_, _, _, _, _, h, _⟩ := S.ex
      exact (ne_of_none h n1).symm
    have e2 : H2 l = some (.lst [.int 9, .int 40, .int 99999]) := m2 _ _ e1 (by simpa using ne)
    have fin : ∀ n : Int, 0 < n → n ≤ 99999 → spDrawn (K := K) [.ref r, .int n] H2 (fun y H3 => rI0 (fun i j => .int (i + j)) (.int 1) y H3 Q) E := fun n h0 h1 =>
      ⟨H0, r, n, rfl, S2, h0, by omega, fun y H3 y0 y1 m3 S3 => g_I0 (q _ _ (by omega) (by omega) ((m1.of0.trans m2).trans m3) S3)⟩
    have hx : x = 0 ∨ x = 1 ∨ x = 2 := by omega
    rcases hx with rfl | rfl | rfl
    · wtm_at "go"
      exact fin 9 (by omega) (by omega)
    · wtm_at "go"
      exact fin 40 (by omega) (by omega)
    · wtm_at "go"
      exact fin 99999 (by omega) (by omega)
/-- signs and codes -/
theorem sgn_law (k m c a kd : Int) : (k * (17 * m + 31 * c + 53 * a + kd) + (17 * m + 31 * c + 53 * a + kd)) % 999983 = sgn k m c a kd := by
  unfold sgn
  congr 1
  rw [Int.add_mul, Int.one_mul]
theorem c__law_sign (T : Tx K mg) : Cl P w K mg base 1 "_law_sign" spSignOf [] := by
  refine T.f__law_sign.cl sc__law_sign (fun vs H Q E h => ?_) (fun cdv A outer s H vs Q E hr h => ?_)
  · obtain ⟨_, _, _, _, _, rfl, _⟩ := h
    rfl
  · obtain ⟨k, m, c, a, kd, rfl, b1, b2, b3, b4, b5, q⟩ := h
    rw [← sgn_law] at q
    refine ⟨_, (pss_cons (ps_set (i := 5) sc__law_sign.nd rfl (Or.inl rfl) (pe_op op_add (pe_op op_add (pe_op op_add (pe_op op_mulW pe_int (pv 1)) (pe_op op_mulW pe_int (pv 2))) (pe_op op_mulW pe_int (pv 3))) (pv 4)))
      (pss_one (ps_ret (pe_op op_mod (pe_op op_add (pe_op op_mulW (pv 0) (pv 5)) (pv 5)) pe_int)))), ?_⟩
    wtm_at "go"
    exact q
theorem c__law_code (T : Tx K mg) : Cl P w K mg base 2 "_law_code" spCodeOf [] := by
  refine T.f__law_code.cl sc__law_code (fun vs H Q E h => ?_) (fun cdv A outer s H vs Q E hr h => ?_)
  · obtain ⟨_, _, _, _, _, rfl, _⟩ := h
    rfl
  · obtain ⟨k, m, c, a, kd, rfl, b1, b2, b3, b4, b5, q⟩ := h
    refine ⟨_, (pss_one (ps_ret (pe_tup (pa_cons (pv 1) (pa_cons (pv 2) (pa_cons (pv 3) (pa_cons (q_call (c__law_sign T) hr (by decide) rfl (passes_call (takes_of rfl rfl rfl rfl) (fun _ _ _ _ h => h)) (pa_cons (pv 0) (pa_cons (pv 1) (pa_cons (pv 2) (pa_cons (pv 3) (pa_cons (pv 4) pa_nil)))))) pa_nil))))))), ?_⟩
    wtm_at "go"
    refine ⟨k, m, c, a, kd, rfl, b1, b2, b3, b4, b5, ?_⟩
    wtm_at "go"
    exact q _ _ (by assumption) (by assumption) (by assumption)
/-- what a meter is -/
def spLMeter : Sp := fun vs H Q _ => ∃ (n k : Int), vs = [.int n, .int k] ∧ ∀ q qc qs H', H q = none → H qc = none → H qs = none → Mx [] H H' → LmAt K H' q qc qs ⟨n, k, 1 :: List.replicate 19 0, [], true⟩ → Q (.ref q) H'
theorem c__law_meter (T : Tx K mg) : Cl P w K mg base 1 "_law_meter" (spLMeter (K := K)) [] := by
  refine T.f__law_meter.cl sc__law_meter (fun vs H Q E h => ?_) (fun cdv A outer s H vs Q E hr h => ?_)
  · obtain ⟨_, _, rfl, _⟩ := h
    rfl
  · obtain ⟨n, k, rfl, q⟩ := h
    refine ⟨_, (pss_one (ps_ret (pe_disp (pps_cons pe_str (pv 0) (pps_cons pe_str (pv 1) (pps_cons pe_str (pe_op op_cat (pe_lst (pa_cons pe_int pa_nil)) (pe_op op_rep (pe_lst (pa_cons pe_int pa_nil)) pe_int)) (pps_cons pe_str (pe_lst pa_nil) (pps_cons pe_str pe_bl pps_nil))))) (by rfl) (by rfl) (fun z => by cases z) (by decide)))), ?_⟩
    wtm_at "go"
    rename_i d H1 n1 m1 e1 _ H2 n2 m2 e2 _ H3 n3 m3 e3 _ H4 n4 m4 e4 cc H5 n5 m5 e5 ss H6 n6 m6 e6 H7 m7 e7
    have c1 : d ≠ cc := by wtm_at "ne"
    have c2 : d ≠ ss := by wtm_at "ne"
    refine q d cc ss H7 n1 (by wtm_at "fr") (by wtm_at "fr") (by wtm_at "mo") ⟨e7, ?_, ⟨[], ?_, .nil⟩, ?_⟩
    · exact m7 _ _ (m6.get0 e5) (by simpa using c1.symm)
    · exact m7 _ _ e6 (by simpa using c2.symm)
    · exact ne_of_none e5 n6
/-- the bank that stands, by own look -/
def spLBank : Sp := fun vs H Q _ => ∃ (a : Addr) (cs : List Int), vs = [.ref a] ∧ SqL K H a (cs.map V.int) ∧ Any cs ∧ ∀ p H', H p = none → Mx [] H H' → H' p = some (.lst ((bank cs).map V.int)) → Q (.ref p) H'
theorem cut_lo {cs : List Int} : cutV (cs.map V.int) none (some 10) = (cs.take 10).map V.int := by
  have e : (10 : Int) = ((10 : Nat) : Int) := rfl
  rw [e]
  unfold cutV
  rw [HT.sIx_nat, HT.sIx_none, List.length_map, List.drop_zero, Nat.sub_zero, List.map_take]
  by_cases h : 10 ≤ cs.length
  · rw [Nat.min_eq_left h]
  · rw [Nat.min_eq_right (by omega), List.take_of_length_le (by simp), List.take_of_length_le (by simp; omega)]
theorem cut_hi {cs : List Int} : cutV (cs.map V.int) (some 10) none = (cs.drop 10).map V.int := by
  have e : (10 : Int) = ((10 : Nat) : Int) := rfl
  rw [e]
  unfold cutV
  rw [HT.sIx_nat, HT.sIx_none, List.length_map, ← List.map_drop]
  by_cases h : 10 ≤ cs.length
  · rw [Nat.min_eq_left h, List.take_of_length_le (by simp)]
  · rw [Nat.min_eq_right (by omega), Nat.sub_self, List.take_zero, List.drop_eq_nil_of_le (by omega)]
    rfl
theorem c__law_bank (T : Tx K mg) : Cl P w K mg base 1 "_law_bank" (spLBank (K := K)) [] := by
  refine T.f__law_bank.cl sc__law_bank (fun vs H Q E h => ?_) (fun cdv A outer s H vs Q E hr h => ?_)
  · obtain ⟨_, _, rfl, _⟩ := h
    rfl
  · obtain ⟨a, cs, rfl, hS, hA, q⟩ := h
    have hl := hA.1
    refine ⟨_, (pss_cons (ps_par (i := 1) (j := 2) (by rfl) sc__law_bank.nd rfl rfl (by decide) rfl rfl (pa_cons (pe_slice (slL K) (pv 0) po_none (po_some pe_int)) (pa_cons (pe_slice (slL K) (pv 0) (po_some pe_int) po_none) pa_nil)) (by rfl))
      (pss_cons (ps_if (PW.pt (pw_or (pt_cmpR op_ne (pe_ix (ixL K) (pv 1) pe_int (fun _ _ => rfl)) pe_int (by first | exact nomark _ | rfl)) (pw_or1 (PW.pt (pw_and (pt_cmpR op_eq (pe_ix (ixL K) (pv 2) pe_int (fun _ _ => rfl)) pe_int (by first | exact nomark _ | rfl)) (pw_and1 (pt_cmpR op_gt (pe_ix (ixL K) (pv 2) pe_int (fun _ _ => rfl)) (pe_ix (ixL K) (pv 1) pe_int (fun _ _ => rfl)) (by first | exact nomark _ | rfl)))))))) (pss_one (ps_ret (pv 2))) pss_nil)
      (pss_one (ps_ret (pv 1))))), ?_⟩
    wtm_at "go"
    rename_i p1 H1 n1 m1 e1 p2 H2 n2 m2 e2
    rw [cut_lo] at e1
    rw [cut_hi] at e2
    have hl1 : (cs.take 10).length = 10 := by simp [hl]
    have hl2 : (cs.drop 10).length = 10 := by simp [hl]
    have t0 : cl (cs.take 10) 0 = cl cs 0 := cl_take (by omega)
    have t1 : cl (cs.take 10) 1 = cl cs 1 := cl_take (by omega)
    have d0 : cl (cs.drop 10) 0 = cl cs 10 := cl_drop
    have d1 : cl (cs.drop 10) 1 = cl cs 11 := cl_drop
    have b0 : stand cs = 0 → bank cs = cs.take 10 := fun z => by unfold bank; rw [z]; rfl
    have b1 : stand cs = 1 → bank cs = cs.drop 10 := fun z => by unfold bank; rw [z, List.take_of_length_le (by simp [hl])]
    have r1 : stand cs = 1 → ∀ H', Mx [] H H' → H' p2 = some (.lst ((cs.drop 10).map V.int)) → Q (.ref p2) H' := fun z H' m e => q p2 H' (by wtm_at "fr") m (by rw [b1 z]; exact e)
    have r0 : stand cs = 0 → ∀ H', Mx [] H H' → H' p1 = some (.lst ((cs.take 10).map V.int)) → Q (.ref p1) H' := fun z H' m e => q p1 H' n1 m (by rw [b0 z]; exact e)
    wtm_at "go"
    refine g_ite (fun e => ?_) (fun e => ?_)
    · rw [t0] at e
      wtm_at "go"
      refine r1 ?_ _ (by wtm_at "mo") (by wtm_at "hp")
      unfold stand
      rw [if_neg]
      simp at e
      exact fun z => e z.1
    · rw [t0] at e
      have e' : cl cs 0 = 1 := by simpa using e
      wtm_at "go"
      refine g_ite (fun e2 => ?_) (fun e2 => ?_)
      · rw [d0] at e2
        have e2' : cl cs 10 = 1 := by simpa using e2
        wtm_at "go"
        refine g_ite (fun e3 => ?_) (fun e3 => ?_)
        · rw [t1, d1] at e3
          have e3' : cl cs 1 < cl cs 11 := by simpa using e3
          wtm_at "go"
          refine r1 ?_ _ (by wtm_at "mo") (by wtm_at "hp")
          unfold stand
          rw [if_neg]
          exact fun z => z.2 ⟨e2', e3'⟩
        · rw [t1, d1] at e3
          have e3' : ¬ cl cs 1 < cl cs 11 := by simpa using e3
          wtm_at "go"
          refine r0 ?_ _ (by wtm_at "mo") (by wtm_at "hp")
          unfold stand
          rw [if_pos]
          exact ⟨e', fun z => e3' z.2⟩
      · rw [d0] at e2
        have e2' : ¬ cl cs 10 = 1 := by simpa using e2
        wtm_at "go"
        refine r0 ?_ _ (by wtm_at "mo") (by wtm_at "hp")
        unfold stand
        rw [if_pos]
        exact ⟨e', fun z => e2' z.1⟩
end
end Fk
namespace Fk
open PySem PySem.Spec PyProof.Rows L2
local macro_rules | `(tactic| wtm_at "ln") => `(tactic| first
  | omega
  | (simp only [List.length_cons, List.length_nil, List.length_map, List.length_append, List.length_replicate, List.length_take, List.length_drop, List.length_set]; omega)
  | (with_unfolding_all exact (by decide)))
local macro_rules | `(tactic| wtm_at "ar") => `(tactic| first
  | ((with_reducible show CMulW _ _); (refine' mulS ?_ ?_ <;> omega))
  | ((with_reducible show CDivW _ _); (refine' divS ?_ ?_ <;> omega))
  | ((with_reducible show CPow _ _); exact ⟨by decide, by decide, by decide⟩)
  | (show (0 : Int) < _; omega)
  | (with_unfolding_all exact (by decide)))
local macro_rules | `(tactic| wtm_at "at") => `(tactic| first
  | assumption
  | (refine' cl_atE ?e80 ?h80; (case' e80 => first | exact rfl | assumption); (case' h80 => wtm_at "ln"))
  | exact rfl)
local macro_rules | `(tactic| wtm_at "fr") => `(tactic| first
  | assumption
  | ((with_reducible refine' Mx.free0 ?m99 ?h99); (case' h99 => assumption); (case' m99 => wtm_at "mo")))
local macro_rules | `(tactic| wtm_at "hp") => `(tactic| first
  | assumption
  | ((with_reducible refine' Mx.get0 ?m1 ?h1); (case' m1 => assumption); (case' h1 => wtm_at "hp"))
  | ((with_reducible refine' Mx.get ?m2 ?n2 ?h2); (case' m2 => assumption); (case' n2 => wtm_at "nin"); (case' h2 => wtm_at "hp")))
local macro_rules | `(tactic| wtm_at "sl") => `(tactic| first
  | assumption
  | ((with_reducible refine' Mx.sqL0 ?m96 ?h96); (case' h96 => assumption); (case' m96 => wtm_at "mo"))
  | (refine' SqL.of ?h3; (case' h3 => wtm_at "hp"))
  | ((with_reducible refine' Mx.sqL0 ?m4 ?h4); (case' m4 => assumption); (case' h4 => wtm_at "sl"))
  | ((with_reducible refine' Mx.sqL ?m5 ?n5 ?h5); (case' m5 => assumption); (case' n5 => wtm_at "nin"); (case' h5 => wtm_at "sl")))
local macro_rules | `(tactic| wtm_at "st") => `(tactic| first
  | assumption
  | ((with_reducible refine' Mx.sqT0 ?m97 ?h97); (case' h97 => assumption); (case' m97 => wtm_at "mo"))
  | (refine' SqT.of ?h6; (case' h6 => wtm_at "hp"))
  | ((with_reducible refine' Mx.sqT0 ?m7 ?h7); (case' m7 => assumption); (case' h7 => wtm_at "st"))
  | ((with_reducible refine' Mx.sqT ?m8 ?n8 ?h8); (case' m8 => assumption); (case' n8 => wtm_at "nin"); (case' h8 => wtm_at "st")))
local macro_rules | `(tactic| wtm_at "mx") => `(tactic| first
  | assumption
  | exact Mx.refl
  | ((with_reducible refine' Mx.of0 ?h9); (case' h9 => assumption))
  | ((with_reducible refine' Mx.trans ?h10 ?m10); (case' m10 => first | assumption | ((with_reducible refine' Mx.of0 ?q10); (case' q10 => assumption))); (case' h10 => wtm_at "mx")))
local macro_rules | `(tactic| wtm_at "mo") => `(tactic| first
  | wtm_at "mx"
  | ((with_reducible refine' Mx.own ?m90 ?f90 ?k90); (case' k90 => assumption); (case' f90 => wtm_at "fr"); (case' m90 => wtm_at "mo"))
  | ((with_reducible refine' Mx.trans ?h91 ?m91); (case' m91 => first | assumption | ((with_reducible refine' Mx.of0 ?q91); (case' q91 => assumption))); (case' h91 => wtm_at "mo")))
local macro_rules | `(tactic| wtm_at "ne") => `(tactic| first
  | assumption
  | exact Ne.symm (by assumption)
  | ((with_reducible refine' ne_of_none ?x94 ?y94); (case' y94 => assumption); (case' x94 => wtm_at "hp"))
  | ((with_reducible refine' Ne.symm (ne_of_none ?x95 ?y95)); (case' y95 => assumption); (case' x95 => wtm_at "hp")))
local macro_rules | `(tactic| wtm_at "nin") => `(tactic| first
  | assumption
  | exact List.not_mem_nil
  | ((with_reducible refine' List.not_mem_cons_of_ne_of_not_mem ?h98 ?t98); (case' h98 => wtm_at "ne"); (case' t98 => wtm_at "nin")))
local macro_rules | `(tactic| wtm_at "g1") => `(tactic| first
  | ((with_reducible refine' g_var ?h11 ?k11); (case' h11 => exact rfl))
  | with_reducible refine' g_c ?_
  | with_reducible refine' g_op ?_
  | with_reducible refine' g_I0 ?_
  | ((with_reducible refine' g_I ?c12 ?k12); (case' c12 => wtm_at "ar"))
  | with_reducible refine' g_cons ?_
  | with_reducible refine' g_nil ?_
  | with_reducible refine' g_seq ?_
  | with_reducible refine' g_asg ?_
  | with_reducible refine' g_name ?_
  | with_reducible refine' g_ret ?_
  | with_reducible refine' g_if ?_
  | with_reducible refine' g_test ?_
  | with_reducible refine' g_tB ?_
  | with_reducible refine' g_bl ?_
  | ((with_reducible refine' g_eq ?h13 ?k13); (case' h13 => exact rfl))
  | ((with_reducible refine' g_ne ?h14 ?k14); (case' h14 => exact rfl))
  | with_reducible refine' g_CB ?_
  | with_reducible refine' g_call ?_
  | with_reducible refine' g_drop ?_
  | with_reducible refine' g_next ?_
  | with_reducible refine' g_not ?_
  | with_reducible refine' g_and ?_
  | with_reducible refine' g_or ?_
  | with_reducible refine' g_un ?_
  | with_reducible refine' g_U ?_
  | with_reducible refine' g_tup ?_
  | with_reducible refine' g_lst ?_
  | ((with_reducible refine' g_kNew ?h15 ?k15); (case' h15 => wtm_at "ln"); (case' k15 => intro _ _ _ _ _))
  | ((with_reducible refine' g_ixL ?h16 ?a16 ?k16); (case' h16 => wtm_at "sl"); (case' a16 => wtm_at "at"))
  | ((with_reducible refine' g_ixT ?h17 ?a17 ?k17); (case' h17 => wtm_at "st"); (case' a17 => wtm_at "at"))
  | with_reducible refine' g_slice ?_
  | with_reducible refine' g_part ?_
  | with_reducible refine' g_kPart ?_
  | with_reducible refine' g_noPart ?_
  | ((with_reducible refine' g_slL ?h18 ?k18); (case' h18 => wtm_at "sl"); (case' k18 => intro _ _ _ _ _))
  | ((with_reducible refine' g_cat ?h119 ?h219 ?l19 ?k19); (case' h119 => wtm_at "hp"); (case' h219 => wtm_at "hp"); (case' l19 => wtm_at "ln"); (case' k19 => intro _ _ _ _ _))
  | ((with_reducible refine' g_rep ?h120 ?h220 ?h320 ?l20 ?k20); (case' h120 => wtm_at "hp"); (case' h220 => wtm_at "ln"); (case' h320 => wtm_at "ln"); (case' l20 => wtm_at "ln"); (case' k20 => intro _ _ _ _ _))
  | ((with_reducible refine' g_append ?h21 ?l21 ?k21); (case' h21 => wtm_at "hp"); (case' l21 => wtm_at "ln"); (case' k21 => intro _ _ _))
  | ((with_reducible refine' g_kBM ?h22 ?k22); (case' h22 => wtm_at "sl"))
  | ((with_reducible refine' g_kBM0 ?h23 ?k23); (case' h23 => wtm_at "sl"))
  | ((with_reducible refine' g_kL ?h24 ?k24); (case' h24 => wtm_at "sl"))
  | ((with_reducible refine' g_kR1 ?h125 ?h225 ?k25); (case' h125 => wtm_at "ln"); (case' h225 => wtm_at "ln"))
  | ((with_reducible refine' g_kR2 ?h126 ?h226 ?h326 ?h426 ?k26); (case' h126 => wtm_at "ln"); (case' h226 => wtm_at "ln"); (case' h326 => wtm_at "ln"); (case' h426 => wtm_at "ln"))
  | ((with_reducible refine' g_lenL ?h27 ?k27); (case' h27 => wtm_at "sl"))
  | ((with_reducible refine' g_lenT ?h28 ?k28); (case' h28 => wtm_at "st"))
  | ((with_reducible refine' g_listL ?h29 ?k29); (case' h29 => wtm_at "sl"); (case' k29 => intro _ _ _ _ _))
  | ((with_reducible refine' g_tupleL ?h30 ?k30); (case' h30 => wtm_at "sl"); (case' k30 => intro _ _ _ _ _))
  | with_reducible refine' g_max ?_
  | with_reducible refine' g_min ?_
  | with_reducible refine' g_intB ?_
  | with_reducible refine' g_fld ?_
  | with_reducible refine' g_put ?_
  | with_reducible refine' g_dget ?_
  | with_reducible refine' g_isN ?_
  | with_reducible refine' g_notN ?_
  | with_reducible refine' g_ifE ?_
  | with_reducible refine' g_andV ?_
  | with_reducible refine' g_orV ?_
  | with_reducible refine' g_notV ?_
  | with_reducible refine' g_kIf ?_
  | with_reducible refine' g_chain ?_
  | with_reducible refine' g_kCh ?_
  | with_reducible refine' g_sub ?_
  | ((with_reducible refine' g_setI ?h92 ?e92 ?j92 ?k92); (case' h92 => wtm_at "hp"); (case' e92 => first | exact rfl | assumption); (case' j92 => wtm_at "ln"); (case' k92 => intro _ _ _))
  | ((with_reducible refine' g_setL ?h89 ?i89 ?k89); (case' h89 => wtm_at "hp"); (case' i89 => exact ixE rfl (by wtm_at "ln")); (case' k89 => intro _ _ _))
  | ((with_reducible refine' g_gtup ?h93 ?e93 ?k93); (case' h93 => wtm_at "st"); (case' e93 => exact rfl))
  | with_reducible refine' g_gcons ?_
  | with_reducible refine' g_gnil ?_
  | with_reducible refine' g_par ?_
  | with_reducible refine' g_kPar ?_
  | with_reducible refine' g_meth ?_
  | with_reducible refine' g_bm ?_
  | with_reducible refine' g_bm0 ?_
  | with_reducible refine' g_raise ?_
  | with_reducible refine' g_for ?_
  | with_reducible refine' g_iR1 ?_
  | with_reducible refine' g_iR2 ?_
  | with_reducible refine' g_iL ?_
  | with_reducible refine' g_lc ?_
  | with_reducible refine' g_retN ?_
  | with_reducible refine' g_no (b := false) rfl ?_
  | with_reducible refine' g_yes (b := true) rfl ?_)
local macro_rules | `(tactic| wtm_at "go") => `(tactic| repeat (wtm_at "g1"))
local macro_rules | `(tactic| wtm_at "gs") => `(tactic| repeat ((fail_if_success (with_reducible refine' g_ifE ?_)); wtm_at "g1"))
local macro_rules | `(tactic| wtm_at "gi") => `(tactic| repeat ((fail_if_success (with_reducible refine' g_if ?_)); wtm_at "g1"))
local macro_rules | `(tactic| wtm_at "gr") => `(tactic| repeat ((fail_if_success (with_reducible refine' g_ret ?_)); wtm_at "g1"))
local macro_rules | `(tactic| wtm_at "gq") => `(tactic| repeat ((fail_if_success (with_reducible refine' g_asg ?_)); wtm_at "g1"))
/-! ### the law's own steps -/
def newsKvs (chs : List (Nat × Int)) : List (Key × V) := chs.map fun c => (Sum.inl (c.1 : Int), V.int c.2)
theorem newsKvs_get {chs : List (Nat × Int)} (nd : (chs.map (·.1)).Nodup) {c : Nat × Int} (h : c ∈ chs) : valV (newsKvs chs) (Sum.inl (c.1 : Int)) = some (.int c.2) := by
  induction chs with
  | nil => cases h
  | cons b r ih =>
    rw [List.map_cons, List.nodup_cons] at nd
    unfold newsKvs valV
    rw [List.map_cons, List.find?_cons]
    rcases List.mem_cons.mp h with rfl | h
    · simp
    · have : ¬ (b.1 : Int) = (c.1 : Int) := fun e => nd.1 (by
        have : b.1 = c.1 := by omega
        rw [this]
        exact List.mem_map_of_mem h)
      have e2 : decide ((Sum.inl (b.1 : Int) : Key) = Sum.inl (c.1 : Int)) = false := by simp [this]
      simp only [e2]
      exact ih nd.2 h
theorem begin_iff {cs : List Int} (hA : Any cs) : (bank cs = cs.take 10 ∧ cl cs 0 = 1) ↔ stand cs = 0 := by
  constructor
  · rintro ⟨h, h0⟩
    have hs := stand_le cs
    refine Classical.byContradiction fun hn => ?_
    have h1 : stand cs = 1 := by omega
    have a0 : cl (bank cs) 0 = cl cs 0 := by rw [h, cl_take (by omega)]
    have a1 : cl (bank cs) 1 = cl cs 1 := by rw [h, cl_take (by omega)]
    rw [cl_bank (by omega), h1] at a0 a1
    refine hn ?_
    unfold stand
    rw [if_pos]
    refine ⟨h0, fun z => ?_⟩
    have : cl cs 11 = cl cs 1 := a1
    omega
  · intro h
    have hw := stand_whole hA
    rw [h] at hw
    exact ⟨by unfold bank; rw [h]; rfl, hw⟩
section
variable {P : Program} {w : World} {K : PySem.W.Frag} {mg : Str → Option Value} {base : Heap}
local macro_rules | `(tactic| wtm_at "g1") => `(tactic| first
  | ((with_reducible refine' g_fOwn (by assumption) ?h201 ?k201); (case' h201 => wtm_at "hp"))
  | ((with_reducible refine' g_fKey (by assumption) ?h202 ?k202); (case' h202 => wtm_at "hp"))
  | ((with_reducible refine' g_fMem (by assumption) ?h203 ?k203); (case' h203 => wtm_at "hp"))
  | ((with_reducible refine' g_fPri (by assumption) ?h204 ?k204); (case' h204 => wtm_at "hp"))
  | ((with_reducible refine' g_fAwa (by assumption) ?h205 ?k205); (case' h205 => wtm_at "hp"))
  | ((with_reducible refine' g_pAwa (by assumption) ?h206 ?k206); (case' h206 => wtm_at "hp"); (case' k206 => intro _ _ _))
  | ((with_reducible refine' g_kMeth ?h207 ?l207 ?k207); (case' h207 => wtm_at "hp"); (case' l207 => exact rfl)))

local macro_rules | `(tactic| wtm_at "g1") => `(tactic| first
  | ((with_reducible refine' g_dNum ?h311 ?k311); (case' h311 => wtm_at "hp"))
  | ((with_reducible refine' g_dKey ?h312 ?k312); (case' h312 => wtm_at "hp"))
  | ((with_reducible refine' g_dCe ?h313 ?k313); (case' h313 => wtm_at "hp"))
  | ((with_reducible refine' g_dSt ?h314 ?k314); (case' h314 => wtm_at "hp"))
  | ((with_reducible refine' g_dUp ?h315 ?k315); (case' h315 => wtm_at "hp"))
  | ((with_reducible refine' g_kDGetS ?h301 ?l301 ?k301); (case' h301 => wtm_at "hp"); (case' l301 => exact rfl))
  | (with_reducible refine' g_dput ?_)
  | (with_reducible refine' g_iK ?_)
  | ((with_reducible refine' g_disp ?k305); (case' k305 => intro _ _ _ _ _))
  | (with_reducible refine' g_pcons ?_)
  | (with_reducible refine' g_pnil ?_)
  | ((with_reducible refine' g_kDisp ?h306 ?e306 ?f306 ?l306 ?k306); (case' h306 => wtm_at "hp"); (case' e306 => exact rfl); (case' f306 => exact rfl); (case' l306 => wtm_at "ln"); (case' k306 => intro _ _ _))
  | ((with_reducible refine' g_pUp ?h302 ?k302); (case' h302 => wtm_at "hp"); (case' k302 => intro _ _ _))
  | ((with_reducible refine' g_pSt ?h303 ?k303); (case' h303 => wtm_at "hp"); (case' k303 => intro _ _ _))
  | ((with_reducible refine' g_pCe ?h304 ?k304); (case' h304 => wtm_at "hp"); (case' k304 => intro _ _ _)))

def spLSteps : Sp := fun vs H Q _ => ∃ (q qc qs d : Addr) (μ : Mt) (chs : List (Nat × Int)), vs = [.ref q, .ref d] ∧ LmAt K H q qc qs μ ∧ Any μ.cells ∧ H d = some (.dK (newsKvs chs)) ∧ (chs.map (·.1)).Nodup ∧ Chs chs ∧
  ∀ p H' ws, H p = none → Mx [] H H' → H' p = some (.lst ws) → DpAll K H' ws ((stepsOf μ.cells chs).map stD) → Q (.ref p) H'
theorem c__law_steps (T : Tx K mg) : Cl P w K mg base 2 "_law_steps" (spLSteps (K := K)) [] := by
  refine T.f__law_steps.cl sc__law_steps (fun vs H Q E h => ?_) (fun cdv A outer s H vs Q E hr h => ?_)
  · obtain ⟨_, _, _, _, _, _, rfl, _⟩ := h
    rfl
  · obtain ⟨q, qc, qs, d, μ, chs, rfl, ⟨ob, ce, ⟨ss, st, dp⟩, ne⟩, hA, hd, nd, hc, k⟩ := h
    have hl := hA.1
    have hb := bank_len hl
    have hn := news_len (chs := chs) hl
    have hs := stand_le μ.cells
    have hu := hu_of hr
    refine ⟨_, (pss_cons (ps_set (i := 2) sc__law_steps.nd rfl (Or.inr rfl) (pe_callTy (cList K) (by rfl) T.n_list (by decide +kernel) (pa_cons (q_call (c__law_bank T) hr (by decide) rfl (passes_call (takes_of rfl rfl rfl rfl) (fun _ _ _ _ h => h)) (pa_cons (pe_dget hu (pv 0) pe_str (fun _ _ => rfl)) pa_nil)) pa_nil)))
      (pss_cons (ps_set (i := 3) sc__law_steps.nd rfl (Or.inr rfl) (pe_ifExp (PW.pt (pw_and (pt_cmpR (opEqD K hr.units) (pv 2) (pe_slice (slL K) (pe_dget hu (pv 0) pe_str (fun _ _ => rfl)) po_none (po_some pe_int)) (by first | exact nomark _ | rfl)) (pw_and1 (pt_cmpR op_eq (pe_ix (ixL K) (pe_dget hu (pv 0) pe_str (fun _ _ => rfl)) pe_int (fun _ _ => rfl)) pe_int (by first | exact nomark _ | rfl))))) pe_int pe_int))
      (pss_cons (ps_asg (pe_op op_add (pe_ix (ixL K) (pv 2) pe_int (fun _ _ => rfl)) pe_int) (pg_sub (pv 2) pe_int set_list))
      (pss_cons (ps_lock (ps_for (passes_of rfl) rfl (pi_keys (pv 1)) (pg_name (i := 4) sc__law_steps.nd rfl (Or.inl rfl))
      (pss_one (ps_asg (pe_dget hu (pv 1) (pv 4) (fun _ _ => rfl)) (pg_sub (pv 2) (pv 4) set_list)))))
      (pss_one (ps_ret (pe_op op_cat (pe_op op_cat (pe_lst (pa_cons (pe_tup (pa_cons (pv 3) (pa_cons pe_int pa_nil))) pa_nil)) (pe_lc (own := [("_law_k", 5)]) (g := gName 5) rfl sc__law_steps.nd (pi_range2 rfl T.n_range (pa_cons pe_int (pa_cons pe_int pa_nil))) (blkOk_by (own := [("_law_k", 5)]) (N := N__law_steps) (sc := defScope s__law_steps) (by decide +kernel)) (fun _ _ _ _ _ => pg_name (i := 5) sc__law_steps.nd rfl (by first | exact Or.inl rfl | exact Or.inr rfl)) (fun _ _ _ _ _ => pts_nil) (fun _ _ _ _ _ => (pe_tup (pa_cons (pe_op op_add (pv 3) (pv 5)) (pa_cons (pe_ix (ixL K) (pv 2) (pv 5) (fun _ _ => rfl)) pa_nil)))))) (pe_lst (pa_cons (pe_tup (pa_cons (pv 3) (pa_cons pe_int pa_nil))) pa_nil))))))))), ?_⟩
    wtm_at "go"
    refine ⟨qc, μ.cells, rfl, by wtm_at "sl", hA, fun b0 H1 n1 m1 e1 => ?_⟩
    wtm_at "gs"
    rename_i b H2 n2 m2 e2
    refine g_cut (fun Q' => ∀ H', Mx [] H2 H' → Q' (.int (other μ.cells)) H') (fun Q' hQ => ?_) (fun H3 m3 => ?_)
    · have hb0 := begin_iff hA
      wtm_at "go"
      rename_i t H3 n3 m3 e3
      rw [cut_lo] at e3
      refine g_eqI (by wtm_at "sl") (by wtm_at "sl") ?_
      wtm_at "go"
      have y : stand μ.cells = 0 → ∀ H', Mx [] H2 H' → Q' (.int 10) H' := fun z H' m => by
        have := hQ H' m
        unfold other at this
        rw [z] at this
        exact this
      have n : ¬ stand μ.cells = 0 → ∀ H', Mx [] H2 H' → Q' (.int 0) H' := fun z H' m => by
        have := hQ H' m
        unfold other at this
        rw [show stand μ.cells = 1 by omega] at this
        exact this
      refine g_ite (fun e => ?_) (fun e => ?_)
      · wtm_at "go"
        refine g_ite (fun e2 => ?_) (fun e2 => ?_)
        · wtm_at "go"
          refine y (hb0.mp ⟨by simpa using e, by simpa using e2⟩) _ (by wtm_at "mo")
        · wtm_at "go"
          refine n (fun z => ?_) _ (by wtm_at "mo")
          have := (hb0.mpr z).2
          simp [this] at e2
      · wtm_at "go"
        refine n (fun z => ?_) _ (by wtm_at "mo")
        have := (hb0.mpr z).1
        simp [this] at e
    · wtm_at "go"
      rename_i H4 m4 e4
      have b_d : b ≠ d := by wtm_at "ne"
      refine g_lock (d := d) (u := .dK (newsKvs chs)) (by wtm_at "hp") trivial fun od H5 m5 e5 => ?_
      wtm_at "go"
      refine g_kKeys e5 ?_
      have c4 : Mx [] H H4 := by wtm_at "mo"
      refine g_forK (fun i σ' H' => ∃ x, σ' = [some (.ref q), some (.ref d), some (.ref b), some (.int (other μ.cells)), x, none] ∧ Mx [b] H5 H' ∧ H' b = some (.lst ((newsTo μ.cells chs i).map V.int)))
        ⟨none, rfl, Mx.refl, m5 _ _ e4 (by simpa using b_d)⟩ (fun i σ' H' hP => ?_) (fun i ky v σ' H' hk hP => ?_) (fun σ' H' hP => ?_)
      · obtain ⟨_, _, m, _⟩ := hP
        exact m _ _ e5 (by simpa using b_d.symm)
      · obtain ⟨x0, rfl, m, e⟩ := hP
        unfold newsKvs at hk
        rw [List.getElem?_map, Option.map_eq_some_iff] at hk
        obtain ⟨c, hc1, hc2⟩ := hk
        cases hc2
        have hmem := List.mem_of_getElem? hc1
        have hc3 := hc c hmem
        have hl2 := newsTo_len (chs := chs) (i := i) hl
        dsimp only [kV]
        wtm_at "go"
        refine g_kDGetIr (kvs := newsKvs chs) (.inr ⟨od, m _ _ e5 (by simpa using b_d.symm)⟩) (newsKvs_get nd hmem) ?_
        wtm_at "go"
        rename_i H6 m6 e6
        refine ⟨_, rfl, m.trans m6, ?_⟩
        rw [newsTo_succ hc1]
        exact e6
      · obtain ⟨x0, rfl, m, e⟩ := hP
        have en : newsTo μ.cells chs (newsKvs chs).length = news μ.cells chs := by unfold newsTo news newsKvs; rw [List.length_map, List.take_length]
        rw [en] at e
        refine ⟨m _ _ e5 (by simpa using b_d.symm), ?_⟩
        have m7 : Mx [b, d] H5 (upd H' d (.dK (newsKvs chs))) := (m.mono (by simp)).trans (.put (by simp))
        have c7 : Mx [] H (upd H' d (.dK (newsKvs chs))) := fun a o ea _ => by
          by_cases h : a = d
          · subst h
            rw [hd] at ea
            cases ea
            exact upd_same
          · rw [upd_ne h]
            have hab : a ≠ b := ne_of_none (m1.get0 ea) n2
            exact m _ _ (m5 _ _ (c4.get0 ea) (by simpa using h)) (by simpa using hab)
        have e7 : upd H' d (.dK (newsKvs chs)) b = some (.lst ((news μ.cells chs).map V.int)) := by rw [upd_ne b_d]; exact e
        generalize upd H' d (.dK (newsKvs chs)) = H8 at *
        wtm_at "go"
        rename_i t1 H9 n9 m9 e9 l1 H10 n10 m10 e10
        refine g_lcRD (K := K) (fun i => stD ((other μ.cells : Int) + (1 + (i : Int)), cl (news μ.cells chs) (1 + i))) (fun _ => rfl) (by intro x; rfl) (by decide) (fun i H' QN hi m hQ => ?_) (fun Dl H' ws hD m eD dD => ?_)
        · have hi2 : i < 9 := hi
          have ei : (1 + (i : Int)) = ((1 + i : Nat) : Int) := by omega
          wtm_at "go"
          refine hQ _ _ (by wtm_at "mo") (.mkSt (by wtm_at "st"))
        · have lw := dD.len
          rw [List.length_map, List.length_range] at lw
          have lw2 : ws.length = 9 := lw
          wtm_at "go"
          rename_i l2 H11 n11 m11 e11 t3 H12 n12 m12 e12 l3 H13 n13 m13 e13 l4 H14 n14 m14 e14
          refine k l4 H14 _ (by wtm_at "fr") (by wtm_at "mo") e14 ?_
          have ds : DpAll K H' ws (((List.range 9).map fun (k : Nat) => ((other μ.cells : Int) + (1 + (k : Int)), cl (news μ.cells chs) (k + 1))).map stD) := by
            rw [List.map_map]
            have : (List.range 9).map (stD ∘ fun (k : Nat) => ((other μ.cells : Int) + (1 + (k : Int)), cl (news μ.cells chs) (k + 1))) = (List.range (10 - 1 : Int).toNat).map (fun (i : Nat) => stD ((other μ.cells : Int) + (1 + (i : Int)), cl (news μ.cells chs) (1 + i))) := by
              show _ = (List.range 9).map _
              congr 1
              funext k
              simp [Nat.add_comm]
            rw [this]
            exact dD
          unfold stepsOf
          rw [List.map_append, List.map_cons]
          refine .app (.cons (.mkSt (by wtm_at "st")) ((((ds.mx m11).mx m12).mx m13).mx m14)) (.cons (.mkSt (by wtm_at "st")) .nil)
end
end Fk
namespace Fk
open PySem PySem.Spec PyProof.Rows L2
local macro_rules | `(tactic| wtm_at "ln") => `(tactic| first
  | omega
  | (simp only [List.length_cons, List.length_nil, List.length_map, List.length_append, List.length_replicate, List.length_take, List.length_drop, List.length_set]; omega)
  | (with_unfolding_all exact (by decide)))
local macro_rules | `(tactic| wtm_at "ar") => `(tactic| first
  | ((with_reducible show CMulW _ _); (refine' mulS ?_ ?_ <;> omega))
  | ((with_reducible show CDivW _ _); (refine' divS ?_ ?_ <;> omega))
  | ((with_reducible show CPow _ _); exact ⟨by decide, by decide, by decide⟩)
  | (show (0 : Int) < _; omega)
  | (with_unfolding_all exact (by decide)))
local macro_rules | `(tactic| wtm_at "at") => `(tactic| first
  | assumption
  | (refine' cl_atE ?e80 ?h80; (case' e80 => first | exact rfl | assumption); (case' h80 => wtm_at "ln"))
  | exact rfl)
local macro_rules | `(tactic| wtm_at "fr") => `(tactic| first
  | assumption
  | ((with_reducible refine' Mx.free0 ?m99 ?h99); (case' h99 => assumption); (case' m99 => wtm_at "mo")))
local macro_rules | `(tactic| wtm_at "hp") => `(tactic| first
  | assumption
  | ((with_reducible refine' Mx.get0 ?m1 ?h1); (case' m1 => assumption); (case' h1 => wtm_at "hp"))
  | ((with_reducible refine' Mx.get ?m2 ?n2 ?h2); (case' m2 => assumption); (case' n2 => wtm_at "nin"); (case' h2 => wtm_at "hp")))
local macro_rules | `(tactic| wtm_at "sl") => `(tactic| first
  | assumption
  | ((with_reducible refine' Mx.sqL0 ?m96 ?h96); (case' h96 => assumption); (case' m96 => wtm_at "mo"))
  | (refine' SqL.of ?h3; (case' h3 => wtm_at "hp"))
  | ((with_reducible refine' Mx.sqL0 ?m4 ?h4); (case' m4 => assumption); (case' h4 => wtm_at "sl"))
  | ((with_reducible refine' Mx.sqL ?m5 ?n5 ?h5); (case' m5 => assumption); (case' n5 => wtm_at "nin"); (case' h5 => wtm_at "sl")))
local macro_rules | `(tactic| wtm_at "st") => `(tactic| first
  | assumption
  | ((with_reducible refine' Mx.sqT0 ?m97 ?h97); (case' h97 => assumption); (case' m97 => wtm_at "mo"))
  | (refine' SqT.of ?h6; (case' h6 => wtm_at "hp"))
  | ((with_reducible refine' Mx.sqT0 ?m7 ?h7); (case' m7 => assumption); (case' h7 => wtm_at "st"))
  | ((with_reducible refine' Mx.sqT ?m8 ?n8 ?h8); (case' m8 => assumption); (case' n8 => wtm_at "nin"); (case' h8 => wtm_at "st")))
local macro_rules | `(tactic| wtm_at "mx") => `(tactic| first
  | assumption
  | exact Mx.refl
  | ((with_reducible refine' Mx.of0 ?h9); (case' h9 => assumption))
  | ((with_reducible refine' Mx.trans ?h10 ?m10); (case' m10 => first | assumption | ((with_reducible refine' Mx.of0 ?q10); (case' q10 => assumption))); (case' h10 => wtm_at "mx")))
local macro_rules | `(tactic| wtm_at "mo") => `(tactic| first
  | wtm_at "mx"
  | ((with_reducible refine' Mx.own ?m90 ?f90 ?k90); (case' k90 => assumption); (case' f90 => wtm_at "fr"); (case' m90 => wtm_at "mo"))
  | ((with_reducible refine' Mx.trans ?h91 ?m91); (case' m91 => first | assumption | ((with_reducible refine' Mx.of0 ?q91); (case' q91 => assumption))); (case' h91 => wtm_at "mo")))
local macro_rules | `(tactic| wtm_at "ne") => `(tactic| first
  | assumption
  | exact Ne.symm (by assumption)
  | ((with_reducible refine' ne_of_none ?x94 ?y94); (case' y94 => assumption); (case' x94 => wtm_at "hp"))
  | ((with_reducible refine' Ne.symm (ne_of_none ?x95 ?y95)); (case' y95 => assumption); (case' x95 => wtm_at "hp")))
local macro_rules | `(tactic| wtm_at "nin") => `(tactic| first
  | assumption
  | exact List.not_mem_nil
  | ((with_reducible refine' List.not_mem_cons_of_ne_of_not_mem ?h98 ?t98); (case' h98 => wtm_at "ne"); (case' t98 => wtm_at "nin")))
local macro_rules | `(tactic| wtm_at "g1") => `(tactic| first
  | ((with_reducible refine' g_var ?h11 ?k11); (case' h11 => exact rfl))
  | with_reducible refine' g_c ?_
  | with_reducible refine' g_op ?_
  | with_reducible refine' g_I0 ?_
  | ((with_reducible refine' g_I ?c12 ?k12); (case' c12 => wtm_at "ar"))
  | with_reducible refine' g_cons ?_
  | with_reducible refine' g_nil ?_
  | with_reducible refine' g_seq ?_
  | with_reducible refine' g_asg ?_
  | with_reducible refine' g_name ?_
  | with_reducible refine' g_ret ?_
  | with_reducible refine' g_if ?_
  | with_reducible refine' g_test ?_
  | with_reducible refine' g_tB ?_
  | with_reducible refine' g_bl ?_
  | ((with_reducible refine' g_eq ?h13 ?k13); (case' h13 => exact rfl))
  | ((with_reducible refine' g_ne ?h14 ?k14); (case' h14 => exact rfl))
  | with_reducible refine' g_CB ?_
  | with_reducible refine' g_call ?_
  | with_reducible refine' g_drop ?_
  | with_reducible refine' g_next ?_
  | with_reducible refine' g_not ?_
  | with_reducible refine' g_and ?_
  | with_reducible refine' g_or ?_
  | with_reducible refine' g_un ?_
  | with_reducible refine' g_U ?_
  | with_reducible refine' g_tup ?_
  | with_reducible refine' g_lst ?_
  | ((with_reducible refine' g_kNew ?h15 ?k15); (case' h15 => wtm_at "ln"); (case' k15 => intro _ _ _ _ _))
  | ((with_reducible refine' g_ixL ?h16 ?a16 ?k16); (case' h16 => wtm_at "sl"); (case' a16 => wtm_at "at"))
  | ((with_reducible refine' g_ixT ?h17 ?a17 ?k17); (case' h17 => wtm_at "st"); (case' a17 => wtm_at "at"))
  | with_reducible refine' g_slice ?_
  | with_reducible refine' g_part ?_
  | with_reducible refine' g_kPart ?_
  | with_reducible refine' g_noPart ?_
  | ((with_reducible refine' g_slL ?h18 ?k18); (case' h18 => wtm_at "sl"); (case' k18 => intro _ _ _ _ _))
  | ((with_reducible refine' g_cat ?h119 ?h219 ?l19 ?k19); (case' h119 => wtm_at "hp"); (case' h219 => wtm_at "hp"); (case' l19 => wtm_at "ln"); (case' k19 => intro _ _ _ _ _))
  | ((with_reducible refine' g_rep ?h120 ?h220 ?h320 ?l20 ?k20); (case' h120 => wtm_at "hp"); (case' h220 => wtm_at "ln"); (case' h320 => wtm_at "ln"); (case' l20 => wtm_at "ln"); (case' k20 => intro _ _ _ _ _))
  | ((with_reducible refine' g_append ?h21 ?l21 ?k21); (case' h21 => wtm_at "hp"); (case' l21 => wtm_at "ln"); (case' k21 => intro _ _ _))
  | ((with_reducible refine' g_kBM ?h22 ?k22); (case' h22 => wtm_at "sl"))
  | ((with_reducible refine' g_kBM0 ?h23 ?k23); (case' h23 => wtm_at "sl"))
  | ((with_reducible refine' g_kL ?h24 ?k24); (case' h24 => wtm_at "sl"))
  | ((with_reducible refine' g_kR1 ?h125 ?h225 ?k25); (case' h125 => wtm_at "ln"); (case' h225 => wtm_at "ln"))
  | ((with_reducible refine' g_kR2 ?h126 ?h226 ?h326 ?h426 ?k26); (case' h126 => wtm_at "ln"); (case' h226 => wtm_at "ln"); (case' h326 => wtm_at "ln"); (case' h426 => wtm_at "ln"))
  | ((with_reducible refine' g_lenL ?h27 ?k27); (case' h27 => wtm_at "sl"))
  | ((with_reducible refine' g_lenT ?h28 ?k28); (case' h28 => wtm_at "st"))
  | ((with_reducible refine' g_listL ?h29 ?k29); (case' h29 => wtm_at "sl"); (case' k29 => intro _ _ _ _ _))
  | ((with_reducible refine' g_tupleL ?h30 ?k30); (case' h30 => wtm_at "sl"); (case' k30 => intro _ _ _ _ _))
  | with_reducible refine' g_max ?_
  | with_reducible refine' g_min ?_
  | with_reducible refine' g_intB ?_
  | with_reducible refine' g_fld ?_
  | with_reducible refine' g_put ?_
  | with_reducible refine' g_dget ?_
  | with_reducible refine' g_isN ?_
  | with_reducible refine' g_notN ?_
  | with_reducible refine' g_ifE ?_
  | with_reducible refine' g_andV ?_
  | with_reducible refine' g_orV ?_
  | with_reducible refine' g_notV ?_
  | with_reducible refine' g_kIf ?_
  | with_reducible refine' g_chain ?_
  | with_reducible refine' g_kCh ?_
  | with_reducible refine' g_sub ?_
  | ((with_reducible refine' g_setI ?h92 ?e92 ?j92 ?k92); (case' h92 => wtm_at "hp"); (case' e92 => first | exact rfl | assumption); (case' j92 => wtm_at "ln"); (case' k92 => intro _ _ _))
  | ((with_reducible refine' g_setL ?h89 ?i89 ?k89); (case' h89 => wtm_at "hp"); (case' i89 => exact ixE rfl (by wtm_at "ln")); (case' k89 => intro _ _ _))
  | ((with_reducible refine' g_gtup ?h93 ?e93 ?k93); (case' h93 => wtm_at "st"); (case' e93 => exact rfl))
  | with_reducible refine' g_gcons ?_
  | with_reducible refine' g_gnil ?_
  | with_reducible refine' g_par ?_
  | with_reducible refine' g_kPar ?_
  | with_reducible refine' g_meth ?_
  | with_reducible refine' g_bm ?_
  | with_reducible refine' g_bm0 ?_
  | with_reducible refine' g_raise ?_
  | with_reducible refine' g_for ?_
  | with_reducible refine' g_iR1 ?_
  | with_reducible refine' g_iR2 ?_
  | with_reducible refine' g_iL ?_
  | with_reducible refine' g_lc ?_
  | with_reducible refine' g_retN ?_
  | with_reducible refine' g_no (b := false) rfl ?_
  | with_reducible refine' g_yes (b := true) rfl ?_)
local macro_rules | `(tactic| wtm_at "go") => `(tactic| repeat (wtm_at "g1"))
local macro_rules | `(tactic| wtm_at "gs") => `(tactic| repeat ((fail_if_success (with_reducible refine' g_ifE ?_)); wtm_at "g1"))
local macro_rules | `(tactic| wtm_at "gi") => `(tactic| repeat ((fail_if_success (with_reducible refine' g_if ?_)); wtm_at "g1"))
local macro_rules | `(tactic| wtm_at "gr") => `(tactic| repeat ((fail_if_success (with_reducible refine' g_ret ?_)); wtm_at "g1"))
local macro_rules | `(tactic| wtm_at "gq") => `(tactic| repeat ((fail_if_success (with_reducible refine' g_asg ?_)); wtm_at "g1"))
/-! ### the law's own deeds -/
def runM (μ : Mt) (chs : List (Nat × Int)) (cut : Option Nat) : Bool × Mt :=
  match writeM μ chs cut with
  | (none, μ1) => (false, μ1)
  | (some left, μ1) => printM μ1 left
theorem lastNo_cons (ss : List (Int × Int)) : lastNo ((0, 0) :: ss) = lastNo ss := by
  unfold lastNo
  cases ss with
  | nil => rfl
  | cons a r => rw [List.getLast?_cons_cons]
section
variable {P : Program} {w : World} {K : PySem.W.Frag} {mg : Str → Option Value} {base : Heap}
local macro_rules | `(tactic| wtm_at "g1") => `(tactic| first
  | ((with_reducible refine' g_fOwn (by assumption) ?h201 ?k201); (case' h201 => wtm_at "hp"))
  | ((with_reducible refine' g_fKey (by assumption) ?h202 ?k202); (case' h202 => wtm_at "hp"))
  | ((with_reducible refine' g_fMem (by assumption) ?h203 ?k203); (case' h203 => wtm_at "hp"))
  | ((with_reducible refine' g_fPri (by assumption) ?h204 ?k204); (case' h204 => wtm_at "hp"))
  | ((with_reducible refine' g_fAwa (by assumption) ?h205 ?k205); (case' h205 => wtm_at "hp"))
  | ((with_reducible refine' g_pAwa (by assumption) ?h206 ?k206); (case' h206 => wtm_at "hp"); (case' k206 => intro _ _ _))
  | ((with_reducible refine' g_kMeth ?h207 ?l207 ?k207); (case' h207 => wtm_at "hp"); (case' l207 => exact rfl)))

local macro_rules | `(tactic| wtm_at "g1") => `(tactic| first
  | ((with_reducible refine' g_dNum ?h311 ?k311); (case' h311 => wtm_at "hp"))
  | ((with_reducible refine' g_dKey ?h312 ?k312); (case' h312 => wtm_at "hp"))
  | ((with_reducible refine' g_dCe ?h313 ?k313); (case' h313 => wtm_at "hp"))
  | ((with_reducible refine' g_dSt ?h314 ?k314); (case' h314 => wtm_at "hp"))
  | ((with_reducible refine' g_dUp ?h315 ?k315); (case' h315 => wtm_at "hp"))
  | ((with_reducible refine' g_kDGetS ?h301 ?l301 ?k301); (case' h301 => wtm_at "hp"); (case' l301 => exact rfl))
  | (with_reducible refine' g_dput ?_)
  | (with_reducible refine' g_iK ?_)
  | ((with_reducible refine' g_disp ?k305); (case' k305 => intro _ _ _ _ _))
  | (with_reducible refine' g_pcons ?_)
  | (with_reducible refine' g_pnil ?_)
  | ((with_reducible refine' g_kDisp ?h306 ?e306 ?f306 ?l306 ?k306); (case' h306 => wtm_at "hp"); (case' e306 => exact rfl); (case' f306 => exact rfl); (case' l306 => wtm_at "ln"); (case' k306 => intro _ _ _))
  | ((with_reducible refine' g_pUp ?h302 ?k302); (case' h302 => wtm_at "hp"); (case' k302 => intro _ _ _))
  | ((with_reducible refine' g_pSt ?h303 ?k303); (case' h303 => wtm_at "hp"); (case' k303 => intro _ _ _))
  | ((with_reducible refine' g_pCe ?h304 ?k304); (case' h304 => wtm_at "hp"); (case' k304 => intro _ _ _)))

def spLOwed : Sp := fun vs H Q _ => ∃ (q qc qs : Addr) (μ : Mt), vs = [.ref q] ∧ LmAt K H q qc qs μ ∧ Any μ.cells ∧ μ.stamps.length < 1000 ∧
  match owed μ with
  | none => ∀ H', Mx [] H H' → Q .non H'
  | some s => ∀ l H', H l = none → Mx [] H H' → H' l = some (.tup [.int s.1, .int s.2]) → Q (.ref l) H'
theorem c__law_owed (T : Tx K mg) : Cl P w K mg base 2 "_law_owed" (spLOwed (K := K)) [] := by
  refine T.f__law_owed.cl sc__law_owed (fun vs H Q E h => ?_) (fun cdv A outer s H vs Q E hr h => ?_)
  · obtain ⟨_, _, _, _, rfl, _⟩ := h
    rfl
  · obtain ⟨q, qc, qs, μ, rfl, ⟨ob, ce, ⟨ss, st, dp⟩, ne⟩, hA, hst, k⟩ := h
    have hl := hA.1
    have hb := bank_len hl
    have hu := hu_of hr
    have lss : ss.length < 1000 := by rw [dp.len, List.length_map]; exact hst
    refine ⟨_, (pss_cons (ps_set (i := 1) sc__law_owed.nd rfl (Or.inl rfl) (q_call (c__law_bank T) hr (by decide) rfl (passes_call (takes_of rfl rfl rfl rfl) (fun _ _ _ _ h => h)) (pa_cons (pe_dget hu (pv 0) pe_str (fun _ _ => rfl)) pa_nil)))
      (pss_cons (ps_set (i := 2) sc__law_owed.nd rfl (Or.inl rfl) (pe_ix (ixT K) (pe_ix (ixL K) (pe_op op_cat (pe_lst (pa_cons (pe_tup (pa_cons pe_int (pa_cons pe_int pa_nil))) pa_nil)) (pe_dget hu (pv 0) pe_str (fun _ _ => rfl))) (pe_un un_neg pe_int) (fun _ _ => rfl)) pe_int (fun _ _ => rfl)))
      (pss_one (ps_ret (pe_ifExp (pt_cmpR op_gt (pe_ix (ixL K) (pv 1) pe_int (fun _ _ => rfl)) (pv 2) (by first | exact nomark _ | rfl)) (pe_tup (pa_cons (pe_ix (ixL K) (pv 1) pe_int (fun _ _ => rfl)) (pa_cons (pe_ix (ixL K) (pv 1) pe_int (fun _ _ => rfl)) pa_nil))) pe_non))))), ?_⟩
    wtm_at "go"
    refine ⟨qc, μ.cells, rfl, by wtm_at "sl", hA, fun b H1 n1 m1 e1 => ?_⟩
    wtm_at "gs"
    rename_i t0 H2 n2 m2 e2 l0 H3 n3 m3 e3 l1 H4 n4 m4 e4
    have d4 : DpAll K H4 ([.ref t0] ++ ss) (((0, 0) :: μ.stamps).map stD) := .cons (.mkSt (by wtm_at "st")) ((((dp.mx m1).mx m2).mx m3).mx m4)
    obtain ⟨v, hv, s, hs, hd⟩ := last_at d4 (by simp)
    obtain ⟨t, rfl, ht⟩ := hd.st
    have ez : s.1 = lastNo μ.stamps := by rw [← lastNo_cons]; unfold lastNo; rw [hs]
    wtm_at "go"
    refine g_ite (fun e => ?_) (fun e => ?_)
    · have eo : owed μ = some (bk μ 8, bk μ 9) := if_pos (by rw [← ez]; simpa [bk] using e)
      rw [eo] at k
      wtm_at "go"
      exact k _ _ (by wtm_at "fr") (by wtm_at "mo") (by assumption)
    · have eo : owed μ = none := if_neg (by rw [← ez]; simpa [bk] using e)
      rw [eo] at k
      wtm_at "go"
      exact k _ (by wtm_at "mo")
/-- the steps and the print that is owed, up to a cut -/
def spLRun : Sp := fun vs H Q _ => ∃ (q qc qs d : Addr) (μ : Mt) (chs : List (Nat × Int)) (cut : Option Nat), vs = [.ref q, .ref d, cutO cut] ∧ LmAt K H q qc qs μ ∧ Any μ.cells ∧ μ.stamps.length < 1000 ∧ H d = some (.dK (newsKvs chs)) ∧ (chs.map (·.1)).Nodup ∧ Chs chs ∧
  ∀ H', Mx [q, qc, qs] H H' → LmAt K H' q qc qs (runM μ chs cut).2 → Q (.bl (runM μ chs cut).1) H'
theorem cut_eq {c : Option Nat} {i : Nat} (h : decide (V.int (i : Int) = cutO c) = true) : c = some i := by
  cases c with
  | none => simp [cutO] at h
  | some k => simp [cutO] at h; simp; omega
theorem cut_ne {c : Option Nat} {i : Nat} (h : decide (V.int (i : Int) = cutO c) = false) : c ≠ some i := by
  rintro rfl
  simp [cutO] at h
theorem scal_icut (i : Int) (c : Option Nat) : scal (.int i) (cutO c) = true := by cases c <;> rfl
theorem scal_cuti (i : Int) (c : Option Nat) : scal (cutO c) (.int i) = true := by cases c <;> rfl
theorem c__law_run (T : Tx K mg) : Cl P w K mg base 3 "_law_run" (spLRun (K := K)) [] := by
  refine T.f__law_run.cl sc__law_run (fun vs H Q E h => ?_) (fun cdv A outer s H vs Q E hr h => ?_)
  · obtain ⟨_, _, _, _, _, _, _, rfl, _⟩ := h
    rfl
  · obtain ⟨q, qc, qs, d, μ, chs, cut, rfl, M, hA, hst, hd, nd, hc, k⟩ := h
    have M0 := M
    obtain ⟨ob, ce, ⟨ss, st, dp⟩, ne⟩ := M
    have q1 := M0.q_qc
    have q2 := M0.q_qs
    have hl := hA.1
    have hu := hu_of hr
    refine ⟨_, (pss_cons (ps_set (i := 3) sc__law_run.nd rfl (Or.inl rfl) (q_call (c__law_steps T) hr (by decide) rfl (passes_call (takes_of rfl rfl rfl rfl) (fun _ _ _ _ h => h)) (pa_cons (pv 0) (pa_cons (pv 1) pa_nil))))
      (pss_cons (ps_for (passes_of rfl) rfl (pi_range1 rfl T.n_range (pa_cons (pe_callB (cLen K) (by rfl) T.n_len (by decide +kernel) (pa_cons (pv 3) pa_nil)) pa_nil)) (pg_name (i := 4) sc__law_run.nd rfl (Or.inl rfl))
      (pss_cons (ps_if (pt_cmpR op_eq (pv 4) (pv 2) (by first | exact nomark _ | rfl)) (pss_cons (ps_dput hu (pv 0) pe_str pe_bl rfl)
      (pss_one (ps_ret pe_bl))) pss_nil)
      (pss_one (ps_asg (pe_ix (ixT K) (pe_ix (ixL K) (pv 3) (pv 4) (fun _ _ => rfl)) pe_int (fun _ _ => rfl)) (pg_sub (pe_dget hu (pv 0) pe_str (fun _ _ => rfl)) (pe_ix (ixT K) (pe_ix (ixL K) (pv 3) (pv 4) (fun _ _ => rfl)) pe_int (fun _ _ => rfl)) set_list)))))
      (pss_cons (ps_if (pt_cmp (pc_notN (q_call (c__law_owed T) hr (by decide) rfl (passes_call (takes_of rfl rfl rfl rfl) (fun _ _ _ _ h => h)) (pa_cons (pv 0) pa_nil))) rfl) (pss_cons (ps_if (pt_cmpR op_eq (pv 2) (pe_callB (cLen K) (by rfl) T.n_len (by decide +kernel) (pa_cons (pv 3) pa_nil)) (by first | exact nomark _ | rfl)) (pss_cons (ps_dput hu (pv 0) pe_str pe_bl rfl)
      (pss_one (ps_ret pe_bl))) pss_nil)
      (pss_one (ps_expr (bmK K PySem.F.plainAttrs_list PySem.F.slot_list_append PySem.F.type_list_append mt_append (pe_dget hu (pv 0) pe_str (fun _ _ => rfl)) (pa_cons (q_call (c__law_owed T) hr (by decide) rfl (passes_call (takes_of rfl rfl rfl rfl) (fun _ _ _ _ h => h)) (pa_cons (pv 0) pa_nil)) pa_nil))))) pss_nil)
      (pss_one (ps_ret pe_bl))))), ?_⟩
    wtm_at "go"
    refine ⟨q, qc, qs, d, μ, chs, rfl, M0, hA, hd, nd, hc, fun l H1 ws n1 m1 e1 ds => ?_⟩
    have lws : ws.length = 11 := by rw [ds.len, List.length_map, stepsOf_len]
    have c1 : l ≠ qc := by wtm_at "ne"
    have c2 : l ≠ q := by wtm_at "ne"
    wtm_at "go"
    rw [lws]
    refine g_forR (fun i σ' H' => ∃ x, σ' = [some (.ref q), some (.ref d), some (cutO cut), some (.ref l), x] ∧ (∀ k, cut = some k → i ≤ k) ∧ Mx [qc] H1 H' ∧ H' qc = some (.lst ((wr μ.cells (stepsOf μ.cells chs) i).map V.int)))
      ⟨none, rfl, fun _ _ => Nat.zero_le _, Mx.refl, m1.get0 ce⟩ (fun i σ' H' hi hP => ?_) (fun σ' H' hP => ?_)
    · obtain ⟨x0, rfl, hk, m, e⟩ := hP
      have hi2 : i < 11 := hi
      have ob2 : H' q = some (.dK (lmKvs μ qc qs)) := m _ _ (m1.get0 ob) (by simpa using q1)
      have hw : (wr μ.cells (stepsOf μ.cells chs) i).length = 20 := by rw [wr_len, hl]
      rw [show (0 : Int) + (i : Int) = (i : Int) by omega]
      wtm_at "go"
      refine g_eq (scal_icut _ _) ?_
      wtm_at "go"
      refine g_ite (fun ec => ?_) (fun ec => ?_)
      · have e0 := cut_eq ec
        wtm_at "go"
        rename_i H3 m3 e3
        have ew : runM μ chs cut = (false, { μ with cells := wr μ.cells (stepsOf μ.cells chs) i, up := false }) := by
          rw [e0]
          simp only [runM, writeM, if_pos hi2]
        rw [ew] at k
        refine k H3 (((m1.of0).trans (m.mono (by simp))).trans (m3.mono (by simp))) ⟨e3, m3 _ _ e (by simpa using q1.symm), ⟨ss, m3 _ _ (m _ _ (m1.get0 st) (by simpa using ne.symm)) (by simpa using q2.symm), ?_⟩, ne⟩
        exact m3.sts (noTupD ob2) (m.sts (noTup1 (m1.get0 ce)) (dp.mx m1))
      · have e0 := cut_ne ec
        have el : H' l = some (.lst ws) := m _ _ e1 (by simpa using c1)
        obtain ⟨v, hv⟩ : ∃ v, ws[i]? = some v := ⟨_, List.getElem?_eq_getElem (by omega)⟩
        obtain ⟨dd, hd1, hd2⟩ := ds.get' hv
        rw [List.getElem?_map, Option.map_eq_some_iff] at hd1
        obtain ⟨s, hs, rfl⟩ := hd1
        obtain ⟨t, rfl, ht⟩ := (hd2.mxT m (noTup1 (m1.get0 ce)) rfl).st
        have hvI : atI ws (i : Int) = some (.ref t) := atI_nat hv
        obtain ⟨j, ej, hj⟩ := stepsOf_ix (List.mem_of_getElem? hs)
        wtm_at "go"
        rename_i H3 m3 e3
        refine ⟨_, rfl, fun k ek => ?_, m.trans m3, ?_⟩
        · have := hk k ek
          have : k ≠ i := fun z => e0 (by rw [ek, z])
          omega
        · rw [e3, wr_succ hs, ej]
          rfl
    · obtain ⟨x0, rfl, hk, m, e⟩ := hP
      have hk2 : ∀ k, cut = some k → 11 ≤ k := hk
      have e11 : H' qc = some (.lst ((wr μ.cells (stepsOf μ.cells chs) 11).map V.int)) := e
      have ew : runM μ chs cut = printM { μ with cells := wr μ.cells (stepsOf μ.cells chs) 11 } (cut.map fun k => k - 11) := by
        rcases writeM_cases μ chs cut with ⟨c, ec, hc, _⟩ | ⟨_, hw⟩
        · have := hk2 c ec; omega
        · simp only [runM, hw]
      rw [ew] at k
      have ob2 : H' q = some (.dK (lmKvs { μ with cells := wr μ.cells (stepsOf μ.cells chs) 11 } qc qs)) := m _ _ (m1.get0 ob) (by simpa using q1)
      have st2 : H' qs = some (.lst ss) := m _ _ (m1.get0 st) (by simpa using ne.symm)
      have dp2 : DpAll K H' ss (μ.stamps.map stD) := m.sts (noTup1 (m1.get0 ce)) (dp.mx m1)
      have M2 : LmAt K H' q qc qs { μ with cells := wr μ.cells (stepsOf μ.cells chs) 11 } := ⟨ob2, e11, ⟨ss, st2, dp2⟩, ne⟩
      have mm : Mx [q, qc, qs] H H' := (m1.of0).trans (m.mono (by simp))
      have hA2 : Any (wr μ.cells (stepsOf μ.cells chs) 11) := any_wr hA
      have el : H' l = some (.lst ws) := m _ _ e1 (by simpa using c1)
      generalize hμ2 : ({ μ with cells := wr μ.cells (stepsOf μ.cells chs) 11 } : Mt) = μ2 at *
      have hA3 : Any μ2.cells := by rw [← hμ2]; exact hA2
      have hst3 : μ2.stamps.length < 1000 := by rw [← hμ2]; exact hst
      have est : μ2.stamps = μ.stamps := by rw [← hμ2]
      have lss : ss.length < 1000 := by rw [dp.len, List.length_map]; exact hst
      wtm_at "go"
      refine ⟨q, qc, qs, μ2, rfl, M2, hA3, hst3, ?_⟩
      cases eo : owed μ2 with
      | none =>
        intro H3 m3
        have ep : printM μ2 (cut.map fun k => k - 11) = (true, μ2) := by simp only [printM, eo]
        rw [ep] at k
        wtm_at "go"
        refine g_no (by simp) ?_
        wtm_at "go"
        exact k _ (mm.trans m3.of0) (M2.mx0 m3)
      | some s =>
        intro l2 H3 n3 m3 e3
        wtm_at "go"
        refine g_yes (by simp) ?_
        wtm_at "go"
        refine g_eq (scal_cuti _ _) ?_
        wtm_at "go"
        rw [lws]
        refine g_ite (fun ec => ?_) (fun ec => ?_)
        · have e0 : cut = some 11 := cut_eq (by rw [← ec]; congr 1; simp [eq_comm])
          have ep : printM μ2 (cut.map fun k => k - 11) = (false, { μ2 with up := false }) := by simp only [printM, eo, e0]; rfl
          rw [ep] at k
          wtm_at "go"
          rename_i H4 m4 e4
          refine k _ ((mm.trans m3.of0).trans (m4.mono (by simp))) ⟨e4, m4 _ _ (m3.get0 M2.ce) (by simpa using q1.symm), ⟨ss, m4 _ _ (m3.get0 st2) (by simpa using q2.symm), ?_⟩, ne⟩
          rw [est]
          exact m4.sts (noTupD (m3.get0 ob2)) (dp2.mx m3)
        · have e0 : cut ≠ some 11 := cut_ne (by rw [← ec]; congr 1; simp [eq_comm])
          have e1' : (cut.map fun k => k - 11) ≠ some 0 := by
            intro z
            obtain ⟨c, hc1, hc2⟩ := Option.map_eq_some_iff.mp z
            have := hk2 c hc1
            exact e0 (by rw [hc1]; congr 1; omega)
          have ep : printM μ2 (cut.map fun k => k - 11) = (true, { μ2 with stamps := μ2.stamps ++ [s] }) := by simp only [printM, eo, if_neg e1']
          rw [ep] at k
          wtm_at "go"
          refine ⟨q, qc, qs, μ2, rfl, M2.mx0 m3, hA3, hst3, ?_⟩
          rw [eo]
          intro l4 H4 n4 m4 e4
          have st4 : H4 qs = some (.lst ss) := m4.get0 (m3.get0 st2)
          wtm_at "go"
          rename_i H5 m5 e5
          refine k _ (((mm.trans m3.of0).trans m4.of0).trans (m5.mono (by simp))) ⟨m5 _ _ (m4.get0 (m3.get0 ob2)) (by simpa using q2), m5 _ _ (m4.get0 (m3.get0 M2.ce)) (by simpa using ne), ⟨_, e5, ?_⟩, ne⟩
          rw [List.map_append, est]
          refine .app (m5.sts (noTup1 st4) ((dp2.mx m3).mx m4)) (.cons (.mkSt (.of (m5 _ _ e4 ?_))) .nil)
          simp
          rintro rfl
          rw [m3.get0 st2] at n4
          cases n4
end
end Fk
namespace Fk
open PySem PySem.Spec PyProof.Rows L2
local macro_rules | `(tactic| wtm_at "ln") => `(tactic| first
  | omega
  | (simp only [List.length_cons, List.length_nil, List.length_map, List.length_append, List.length_replicate, List.length_take, List.length_drop, List.length_set]; omega)
  | (with_unfolding_all exact (by decide)))
local macro_rules | `(tactic| wtm_at "ar") => `(tactic| first
  | ((with_reducible show CMulW _ _); (refine' mulS ?_ ?_ <;> omega))
  | ((with_reducible show CDivW _ _); (refine' divS ?_ ?_ <;> omega))
  | ((with_reducible show CPow _ _); exact ⟨by decide, by decide, by decide⟩)
  | (show (0 : Int) < _; omega)
  | (with_unfolding_all exact (by decide)))
local macro_rules | `(tactic| wtm_at "at") => `(tactic| first
  | assumption
  | (refine' cl_atE ?e80 ?h80; (case' e80 => first | exact rfl | assumption); (case' h80 => wtm_at "ln"))
  | exact rfl)
local macro_rules | `(tactic| wtm_at "fr") => `(tactic| first
  | assumption
  | ((with_reducible refine' Mx.free0 ?m99 ?h99); (case' h99 => assumption); (case' m99 => wtm_at "mo")))
local macro_rules | `(tactic| wtm_at "hp") => `(tactic| first
  | assumption
  | ((with_reducible refine' Mx.get0 ?m1 ?h1); (case' m1 => assumption); (case' h1 => wtm_at "hp"))
  | ((with_reducible refine' Mx.get ?m2 ?n2 ?h2); (case' m2 => assumption); (case' n2 => wtm_at "nin"); (case' h2 => wtm_at "hp")))
local macro_rules | `(tactic| wtm_at "sl") => `(tactic| first
  | assumption
  | ((with_reducible refine' Mx.sqL0 ?m96 ?h96); (case' h96 => assumption); (case' m96 => wtm_at "mo"))
  | (refine' SqL.of ?h3; (case' h3 => wtm_at "hp"))
  | ((with_reducible refine' Mx.sqL0 ?m4 ?h4); (case' m4 => assumption); (case' h4 => wtm_at "sl"))
  | ((with_reducible refine' Mx.sqL ?m5 ?n5 ?h5); (case' m5 => assumption); (case' n5 => wtm_at "nin"); (case' h5 => wtm_at "sl")))
local macro_rules | `(tactic| wtm_at "st") => `(tactic| first
  | assumption
  | ((with_reducible refine' Mx.sqT0 ?m97 ?h97); (case' h97 => assumption); (case' m97 => wtm_at "mo"))
  | (refine' SqT.of ?h6; (case' h6 => wtm_at "hp"))
  | ((with_reducible refine' Mx.sqT0 ?m7 ?h7); (case' m7 => assumption); (case' h7 => wtm_at "st"))
  | ((with_reducible refine' Mx.sqT ?m8 ?n8 ?h8); (case' m8 => assumption); (case' n8 => wtm_at "nin"); (case' h8 => wtm_at "st")))
local macro_rules | `(tactic| wtm_at "mx") => `(tactic| first
  | assumption
  | exact Mx.refl
  | ((with_reducible refine' Mx.of0 ?h9); (case' h9 => assumption))
  | ((with_reducible refine' Mx.trans ?h10 ?m10); (case' m10 => first | assumption | ((with_reducible refine' Mx.of0 ?q10); (case' q10 => assumption))); (case' h10 => wtm_at "mx")))
local macro_rules | `(tactic| wtm_at "mo") => `(tactic| first
  | wtm_at "mx"
  | ((with_reducible refine' Mx.own ?m90 ?f90 ?k90); (case' k90 => assumption); (case' f90 => wtm_at "fr"); (case' m90 => wtm_at "mo"))
  | ((with_reducible refine' Mx.trans ?h91 ?m91); (case' m91 => first | assumption | ((with_reducible refine' Mx.of0 ?q91); (case' q91 => assumption))); (case' h91 => wtm_at "mo")))
local macro_rules | `(tactic| wtm_at "ne") => `(tactic| first
  | assumption
  | exact Ne.symm (by assumption)
  | ((with_reducible refine' ne_of_none ?x94 ?y94); (case' y94 => assumption); (case' x94 => wtm_at "hp"))
  | ((with_reducible refine' Ne.symm (ne_of_none ?x95 ?y95)); (case' y95 => assumption); (case' x95 => wtm_at "hp")))
local macro_rules | `(tactic| wtm_at "nin") => `(tactic| first
  | assumption
  | exact List.not_mem_nil
  | ((with_reducible refine' List.not_mem_cons_of_ne_of_not_mem ?h98 ?t98); (case' h98 => wtm_at "ne"); (case' t98 => wtm_at "nin")))
local macro_rules | `(tactic| wtm_at "g1") => `(tactic| first
  | ((with_reducible refine' g_var ?h11 ?k11); (case' h11 => exact rfl))
  | with_reducible refine' g_c ?_
  | with_reducible refine' g_op ?_
  | with_reducible refine' g_I0 ?_
  | ((with_reducible refine' g_I ?c12 ?k12); (case' c12 => wtm_at "ar"))
  | with_reducible refine' g_cons ?_
  | with_reducible refine' g_nil ?_
  | with_reducible refine' g_seq ?_
  | with_reducible refine' g_asg ?_
  | with_reducible refine' g_name ?_
  | with_reducible refine' g_ret ?_
  | with_reducible refine' g_if ?_
  | with_reducible refine' g_test ?_
  | with_reducible refine' g_tB ?_
  | with_reducible refine' g_bl ?_
  | ((with_reducible refine' g_eq ?h13 ?k13); (case' h13 => exact rfl))
  | ((with_reducible refine' g_ne ?h14 ?k14); (case' h14 => exact rfl))
  | with_reducible refine' g_CB ?_
  | with_reducible refine' g_call ?_
  | with_reducible refine' g_drop ?_
  | with_reducible refine' g_next ?_
  | with_reducible refine' g_not ?_
  | with_reducible refine' g_and ?_
  | with_reducible refine' g_or ?_
  | with_reducible refine' g_un ?_
  | with_reducible refine' g_U ?_
  | with_reducible refine' g_tup ?_
  | with_reducible refine' g_lst ?_
  | ((with_reducible refine' g_kNew ?h15 ?k15); (case' h15 => wtm_at "ln"); (case' k15 => intro _ _ _ _ _))
  | ((with_reducible refine' g_ixL ?h16 ?a16 ?k16); (case' h16 => wtm_at "sl"); (case' a16 => wtm_at "at"))
  | ((with_reducible refine' g_ixT ?h17 ?a17 ?k17); (case' h17 => wtm_at "st"); (case' a17 => wtm_at "at"))
  | with_reducible refine' g_slice ?_
  | with_reducible refine' g_part ?_
  | with_reducible refine' g_kPart ?_
  | with_reducible refine' g_noPart ?_
  | ((with_reducible refine' g_slL ?h18 ?k18); (case' h18 => wtm_at "sl"); (case' k18 => intro _ _ _ _ _))
  | ((with_reducible refine' g_cat ?h119 ?h219 ?l19 ?k19); (case' h119 => wtm_at "hp"); (case' h219 => wtm_at "hp"); (case' l19 => wtm_at "ln"); (case' k19 => intro _ _ _ _ _))
  | ((with_reducible refine' g_rep ?h120 ?h220 ?h320 ?l20 ?k20); (case' h120 => wtm_at "hp"); (case' h220 => wtm_at "ln"); (case' h320 => wtm_at "ln"); (case' l20 => wtm_at "ln"); (case' k20 => intro _ _ _ _ _))
  | ((with_reducible refine' g_append ?h21 ?l21 ?k21); (case' h21 => wtm_at "hp"); (case' l21 => wtm_at "ln"); (case' k21 => intro _ _ _))
  | ((with_reducible refine' g_kBM ?h22 ?k22); (case' h22 => wtm_at "sl"))
  | ((with_reducible refine' g_kBM0 ?h23 ?k23); (case' h23 => wtm_at "sl"))
  | ((with_reducible refine' g_kL ?h24 ?k24); (case' h24 => wtm_at "sl"))
  | ((with_reducible refine' g_kR1 ?h125 ?h225 ?k25); (case' h125 => wtm_at "ln"); (case' h225 => wtm_at "ln"))
  | ((with_reducible refine' g_kR2 ?h126 ?h226 ?h326 ?h426 ?k26); (case' h126 => wtm_at "ln"); (case' h226 => wtm_at "ln"); (case' h326 => wtm_at "ln"); (case' h426 => wtm_at "ln"))
  | ((with_reducible refine' g_lenL ?h27 ?k27); (case' h27 => wtm_at "sl"))
  | ((with_reducible refine' g_lenT ?h28 ?k28); (case' h28 => wtm_at "st"))
  | ((with_reducible refine' g_listL ?h29 ?k29); (case' h29 => wtm_at "sl"); (case' k29 => intro _ _ _ _ _))
  | ((with_reducible refine' g_tupleL ?h30 ?k30); (case' h30 => wtm_at "sl"); (case' k30 => intro _ _ _ _ _))
  | with_reducible refine' g_max ?_
  | with_reducible refine' g_min ?_
  | with_reducible refine' g_intB ?_
  | with_reducible refine' g_fld ?_
  | with_reducible refine' g_put ?_
  | with_reducible refine' g_dget ?_
  | with_reducible refine' g_isN ?_
  | with_reducible refine' g_notN ?_
  | with_reducible refine' g_ifE ?_
  | with_reducible refine' g_andV ?_
  | with_reducible refine' g_orV ?_
  | with_reducible refine' g_notV ?_
  | with_reducible refine' g_kIf ?_
  | with_reducible refine' g_chain ?_
  | with_reducible refine' g_kCh ?_
  | with_reducible refine' g_sub ?_
  | ((with_reducible refine' g_setI ?h92 ?e92 ?j92 ?k92); (case' h92 => wtm_at "hp"); (case' e92 => first | exact rfl | assumption); (case' j92 => wtm_at "ln"); (case' k92 => intro _ _ _))
  | ((with_reducible refine' g_setL ?h89 ?i89 ?k89); (case' h89 => wtm_at "hp"); (case' i89 => exact ixE rfl (by wtm_at "ln")); (case' k89 => intro _ _ _))
  | ((with_reducible refine' g_gtup ?h93 ?e93 ?k93); (case' h93 => wtm_at "st"); (case' e93 => exact rfl))
  | with_reducible refine' g_gcons ?_
  | with_reducible refine' g_gnil ?_
  | with_reducible refine' g_par ?_
  | with_reducible refine' g_kPar ?_
  | with_reducible refine' g_meth ?_
  | with_reducible refine' g_bm ?_
  | with_reducible refine' g_bm0 ?_
  | with_reducible refine' g_raise ?_
  | with_reducible refine' g_for ?_
  | with_reducible refine' g_iR1 ?_
  | with_reducible refine' g_iR2 ?_
  | with_reducible refine' g_iL ?_
  | with_reducible refine' g_lc ?_
  | with_reducible refine' g_retN ?_
  | with_reducible refine' g_no (b := false) rfl ?_
  | with_reducible refine' g_yes (b := true) rfl ?_)
local macro_rules | `(tactic| wtm_at "go") => `(tactic| repeat (wtm_at "g1"))
local macro_rules | `(tactic| wtm_at "gs") => `(tactic| repeat ((fail_if_success (with_reducible refine' g_ifE ?_)); wtm_at "g1"))
local macro_rules | `(tactic| wtm_at "gi") => `(tactic| repeat ((fail_if_success (with_reducible refine' g_if ?_)); wtm_at "g1"))
local macro_rules | `(tactic| wtm_at "gr") => `(tactic| repeat ((fail_if_success (with_reducible refine' g_ret ?_)); wtm_at "g1"))
local macro_rules | `(tactic| wtm_at "gq") => `(tactic| repeat ((fail_if_success (with_reducible refine' g_asg ?_)); wtm_at "g1"))
/-! ### deeds, told and gone through -/
inductive Dd where
  | stamp (a : Int) | back (a : Int) | top (z : Cd) | up
/-- a deed's tuple -/
def DdAt (H : Hp) (t : Addr) : Dd → Prop
  | .stamp a => H t = some (.tup [.str "stamp", .int a])
  | .back a => H t = some (.tup [.str "give_back", .int a])
  | .top z => ∃ c, H t = some (.tup [.str "top_up", .ref c]) ∧ H c = some (.tup z.vs)
  | .up => H t = some (.tup [.str "come_up"])
theorem mx_tup {S : List Addr} {H H' : Hp} {a : Addr} {xs : List V} (m : Mx S H H') (n : NoTup H S) (h : H a = some (.tup xs)) : H' a = some (.tup xs) := m a _ h fun z => (n a z _ h).1 xs rfl
theorem DdAt.mx {S : List Addr} {H H' : Hp} {t : Addr} {d : Dd} (h : DdAt H t d) (m : Mx S H H') (n : NoTup H S) : DdAt H' t d := by
  cases d with
  | stamp a => exact mx_tup m n h
  | back a => exact mx_tup m n h
  | up => exact mx_tup m n h
  | top z => obtain ⟨c, h1, h2⟩ := h; exact ⟨c, mx_tup m n h1, mx_tup m n h2⟩
theorem DdAt.mx0 {H H' : Hp} {t : Addr} {d : Dd} (h : DdAt H t d) (m : Mx [] H H') : DdAt H' t d := h.mx m noTup0
def Rf.word : Rf → Str
  | .down => "Down"
  | .up => "Up"
  | .amount => "BadAmount"
  | .code => "BadCode"
  | .short => "Short"
  | .bank => "NoBank"
  | .number => "BadNumber"
  | .meter => "NoMeter"
def refR (μ : Mt) : Dd → Option Rf
  | .stamp a => stampR μ a
  | .back a => stampR μ a
  | .top z => topR μ z
  | .up => none
def wordOf : Option Rf → Str
  | none => ""
  | some r => r.word
def Dd.small : Dd → Prop
  | .stamp _ => True
  | .back _ => True
  | .top z => Bd z.m ∧ Bd z.c
  | .up => True
section
variable {P : Program} {w : World} {K : PySem.W.Frag} {mg : Str → Option Value} {base : Heap}
local macro_rules | `(tactic| wtm_at "g1") => `(tactic| first
  | ((with_reducible refine' g_fOwn (by assumption) ?h201 ?k201); (case' h201 => wtm_at "hp"))
  | ((with_reducible refine' g_fKey (by assumption) ?h202 ?k202); (case' h202 => wtm_at "hp"))
  | ((with_reducible refine' g_fMem (by assumption) ?h203 ?k203); (case' h203 => wtm_at "hp"))
  | ((with_reducible refine' g_fPri (by assumption) ?h204 ?k204); (case' h204 => wtm_at "hp"))
  | ((with_reducible refine' g_fAwa (by assumption) ?h205 ?k205); (case' h205 => wtm_at "hp"))
  | ((with_reducible refine' g_pAwa (by assumption) ?h206 ?k206); (case' h206 => wtm_at "hp"); (case' k206 => intro _ _ _))
  | ((with_reducible refine' g_kMeth ?h207 ?l207 ?k207); (case' h207 => wtm_at "hp"); (case' l207 => exact rfl)))

local macro_rules | `(tactic| wtm_at "g1") => `(tactic| first
  | ((with_reducible refine' g_dNum ?h311 ?k311); (case' h311 => wtm_at "hp"))
  | ((with_reducible refine' g_dKey ?h312 ?k312); (case' h312 => wtm_at "hp"))
  | ((with_reducible refine' g_dCe ?h313 ?k313); (case' h313 => wtm_at "hp"))
  | ((with_reducible refine' g_dSt ?h314 ?k314); (case' h314 => wtm_at "hp"))
  | ((with_reducible refine' g_dUp ?h315 ?k315); (case' h315 => wtm_at "hp"))
  | ((with_reducible refine' g_kDGetS ?h301 ?l301 ?k301); (case' h301 => wtm_at "hp"); (case' l301 => exact rfl))
  | (with_reducible refine' g_dput ?_)
  | (with_reducible refine' g_iK ?_)
  | ((with_reducible refine' g_disp ?k305); (case' k305 => intro _ _ _ _ _))
  | (with_reducible refine' g_pcons ?_)
  | (with_reducible refine' g_pnil ?_)
  | ((with_reducible refine' g_kDisp ?h306 ?e306 ?f306 ?l306 ?k306); (case' h306 => wtm_at "hp"); (case' e306 => exact rfl); (case' f306 => exact rfl); (case' l306 => wtm_at "ln"); (case' k306 => intro _ _ _))
  | ((with_reducible refine' g_pUp ?h302 ?k302); (case' h302 => wtm_at "hp"); (case' k302 => intro _ _ _))
  | ((with_reducible refine' g_pSt ?h303 ?k303); (case' h303 => wtm_at "hp"); (case' k303 => intro _ _ _))
  | ((with_reducible refine' g_pCe ?h304 ?k304); (case' h304 => wtm_at "hp"); (case' k304 => intro _ _ _)))

/-- the word of a refusal -/
def spLWord : Sp := fun vs H Q _ => ∃ (q qc qs t : Addr) (μ : Mt) (d : Dd), vs = [.ref q, .ref t] ∧ LmAt K H q qc qs μ ∧ Any μ.cells ∧ Sm μ ∧ DdAt H t d ∧ d ≠ .up ∧ ∀ H', Mx [] H H' → Q (.str (wordOf (refR μ d))) H'
theorem c__law_word (T : Tx K mg) : Cl P w K mg base 2 "_law_word" (spLWord (K := K)) [] := by
  refine T.f__law_word.cl sc__law_word (fun vs H Q E h => ?_) (fun cdv A outer s H vs Q E hr h => ?_)
  · obtain ⟨_, _, _, _, _, _, rfl, _⟩ := h
    rfl
  · obtain ⟨q, qc, qs, t, μ, d, rfl, ⟨ob, ce, st, ne⟩, hA, ⟨hs1, hs2, hs3⟩, hd, hup, k⟩ := h
    have hl := hA.1
    have hb := bank_len hl
    have hu := hu_of hr
    have h5 := hs3 5
    refine ⟨_, (pss_cons (ps_if (pt_not (pt_val (pe_dget hu (pv 0) pe_str (fun _ _ => rfl)))) (pss_one (ps_ret pe_str)) pss_nil)
      (pss_cons (ps_set (i := 2) sc__law_word.nd rfl (Or.inl rfl) (q_call (c__law_bank T) hr (by decide) rfl (passes_call (takes_of rfl rfl rfl rfl) (fun _ _ _ _ h => h)) (pa_cons (pe_dget hu (pv 0) pe_str (fun _ _ => rfl)) pa_nil)))
      (pss_cons (ps_if (pt_cmpR op_eq (pe_ix (ixT K) (pv 1) pe_int (fun _ _ => rfl)) pe_str (by first | exact nomark _ | rfl)) (pss_cons (ps_asg (pe_ix (ixT K) (pv 1) pe_int (fun _ _ => rfl)) (pgT K 4 rfl (pgs_cons (pg_name (i := 3) sc__law_word.nd rfl (Or.inl rfl)) (pgs_cons (pg_name (i := 4) sc__law_word.nd rfl (Or.inl rfl)) (pgs_cons (pg_name (i := 5) sc__law_word.nd rfl (Or.inl rfl)) (pgs_cons (pg_name (i := 6) sc__law_word.nd rfl (Or.inl rfl)) pgs_nil))))))
      (pss_cons (ps_if (PW.pt (pw_or (pt_cmpR op_ne (pv 3) (pe_dget hu (pv 0) pe_str (fun _ _ => rfl)) (by first | exact nomark _ | rfl)) (pw_or (pt_cmpR op_ne (pv 4) (pe_op op_add (pe_ix (ixL K) (pv 2) pe_int (fun _ _ => rfl)) pe_int) (by first | exact nomark _ | rfl)) (pw_or1 (pt_not (pt_chain op_le op_le pe_int (pv 5) pe_int)))))) (pss_one (ps_ret pe_str)) pss_nil)
      (pss_cons (ps_set (i := 7) sc__law_word.nd rfl (Or.inl rfl) (q_call (c__law_sign T) hr (by decide) rfl (passes_call (takes_of rfl rfl rfl rfl) (fun _ _ _ _ h => h)) (pa_cons (pe_dget hu (pv 0) pe_str (fun _ _ => rfl)) (pa_cons (pv 3) (pa_cons (pv 4) (pa_cons (pv 5) (pa_cons pe_int pa_nil)))))))
      (pss_one (ps_ret (pe_ifExp (pt_cmpR op_eq (pv 6) (pv 7) (by first | exact nomark _ | rfl)) pe_str pe_str)))))) pss_nil)
      (pss_cons (ps_if (pt_not (pt_chain op_le op_le pe_int (pe_ix (ixT K) (pv 1) pe_int (fun _ _ => rfl)) pe_int)) (pss_one (ps_ret pe_str)) pss_nil)
      (pss_one (ps_ret (pe_ifExp (pt_cmpR op_lt (pe_ix (ixL K) (pv 2) pe_int (fun _ _ => rfl)) (pe_ix (ixT K) (pv 1) pe_int (fun _ _ => rfl)) (by first | exact nomark _ | rfl)) pe_str pe_str))))))), ?_⟩
    wtm_at "go"
    refine g_ite (fun eu => ?_) (fun eu => ?_)
    · have eu2 : μ.up = false := by simpa using eu
      have er : wordOf (refR μ d) = "Down" := by
        cases d with
        | stamp a => simp [refR, stampR, eu2]; rfl
        | back a => simp [refR, stampR, eu2]; rfl
        | top z => simp [refR, topR, eu2]; rfl
        | up => exact absurd rfl hup
      rw [er] at k
      wtm_at "go"
      exact k _ Mx.refl
    · have eu2 : μ.up = true := by simpa using eu
      wtm_at "go"
      refine ⟨qc, μ.cells, rfl, by wtm_at "sl", hA, fun b H1 n1 m1 e1 => ?_⟩
      have rest : ∀ a : Int, (d = .stamp a ∨ d = .back a) → (∀ H', Mx [] H1 H' → Q (.str (if amt a = true then (if bk μ 3 < a then ("Short" : Str) else "") else "BadAmount")) H') := by
        intro a ha H' m
        have e : wordOf (refR μ d) = if amt a = true then (if bk μ 3 < a then ("Short" : Str) else "") else "BadAmount" := by
          have : refR μ d = stampR μ a := by rcases ha with rfl | rfl <;> rfl
          rw [this]
          cases ea : amt a <;> simp [stampR, eu2, ea]
          · rfl
          · split <;> rfl
        rw [← e]
        exact k _ (m1.trans m)
      cases d with
      | up => exact absurd rfl hup
      | stamp a =>
        have r := rest a (.inl rfl)
        have hd1 : H1 t = some (.tup [.str "stamp", .int a]) := m1.get0 hd
        wtm_at "go"
        refine g_no (by decide +kernel) ?_
        wtm_at "go"
        have bad : amt a = false → ∀ H', Mx [] H1 H' → Q (.str "BadAmount") H' := fun z H' m => by have := r H' m; rw [z] at this; exact this
        refine g_ite (fun e => ?_) (fun e => ?_)
        · wtm_at "go"
          refine g_ite (fun e2 => ?_) (fun e2 => ?_)
          · wtm_at "go"
            exact bad (by simp at e e2; simp [amt]; omega) _ Mx.refl
          · have ea : amt a = true := by simp at e e2; simp [amt]; omega
            rw [ea] at r
            simp only [if_true] at r
            wtm_at "go"
            refine g_ite (fun e3 => ?_) (fun e3 => ?_)
            · have e4 : bk μ 3 < a := by simpa [bk] using e3
              rw [if_pos e4] at r
              wtm_at "go"
              exact r _ Mx.refl
            · have e4 : ¬ bk μ 3 < a := by simpa [bk] using e3
              rw [if_neg e4] at r
              wtm_at "go"
              exact r _ Mx.refl
        · wtm_at "go"
          refine g_yes rfl ?_
          wtm_at "go"
          exact bad (by simp at e; simp [amt]; omega) _ Mx.refl
      | back a =>
        have r := rest a (.inr rfl)
        have hd1 : H1 t = some (.tup [.str "give_back", .int a]) := m1.get0 hd
        wtm_at "go"
        refine g_no (by decide +kernel) ?_
        wtm_at "go"
        have bad : amt a = false → ∀ H', Mx [] H1 H' → Q (.str "BadAmount") H' := fun z H' m => by have := r H' m; rw [z] at this; exact this
        refine g_ite (fun e => ?_) (fun e => ?_)
        · wtm_at "go"
          refine g_ite (fun e2 => ?_) (fun e2 => ?_)
          · wtm_at "go"
            exact bad (by simp at e e2; simp [amt]; omega) _ Mx.refl
          · have ea : amt a = true := by simp at e e2; simp [amt]; omega
            rw [ea] at r
            simp only [if_true] at r
            wtm_at "go"
            refine g_ite (fun e3 => ?_) (fun e3 => ?_)
            · have e4 : bk μ 3 < a := by simpa [bk] using e3
              rw [if_pos e4] at r
              wtm_at "go"
              exact r _ Mx.refl
            · have e4 : ¬ bk μ 3 < a := by simpa [bk] using e3
              rw [if_neg e4] at r
              wtm_at "go"
              exact r _ Mx.refl
        · wtm_at "go"
          refine g_yes rfl ?_
          wtm_at "go"
          exact bad (by simp at e; simp [amt]; omega) _ Mx.refl
      | top z =>
        obtain ⟨c, hd1, hd2⟩ := hd
        obtain ⟨zm, zc, za, zs⟩ := z
        have hd1' : H1 t = some (.tup [.str "top_up", .ref c]) := m1.get0 hd1
        have hd2' : SqT K H1 c [.int zm, .int zc, .int za, .int zs] := .of (m1.get0 hd2)
        have er : refR μ (.top ⟨zm, zc, za, zs⟩) = if good μ.key ⟨zm, zc, za, zs⟩ μ.num (bk μ 5 + 1) 1 = false then some .code else none := by
          show topR _ _ = _
          simp [topR, eu2]
        rw [er] at k
        have bad : good μ.key ⟨zm, zc, za, zs⟩ μ.num (bk μ 5 + 1) 1 = false → ∀ H', Mx [] H1 H' → Q (.str "BadCode") H' := fun z H' m => by
          have := k H' (m1.trans m)
          rw [z] at this
          exact this
        wtm_at "go"
        refine g_yes (by decide +kernel) ?_
        wtm_at "go"
        refine g_ite (fun e => ?_) (fun e => ?_)
        · wtm_at "go"
          exact bad (by simp at e; simp [good, e]) _ Mx.refl
        · wtm_at "go"
          refine g_ite (fun e2 => ?_) (fun e2 => ?_)
          · wtm_at "go"
            refine bad ?_ _ Mx.refl
            simp at e2
            simp [good]
            intro _ z
            exact absurd z (by simpa [bk] using e2)
          · have f1 : zm = μ.num := by simpa using e
            have f2 : zc = bk μ 5 + 1 := by simpa [bk] using e2
            wtm_at "go"
            refine g_ite (fun e3 => ?_) (fun e3 => ?_)
            · wtm_at "go"
              refine g_ite (fun e4 => ?_) (fun e4 => ?_)
              · wtm_at "go"
                refine bad ?_ _ Mx.refl
                have : amt za = false := by simp at e3 e4; simp [amt]; omega
                simp [good, this]
              · have ea : amt za = true := by simp at e3 e4; simp [amt]; omega
                have ea2 := amt_iff.mp ea
                wtm_at "go"
                refine ⟨μ.key, zm, zc, za, 1, rfl, by omega, by omega, by omega, by omega, by omega, ?_⟩
                wtm_at "go"
                refine g_ite (fun e5 => ?_) (fun e5 => ?_)
                · wtm_at "go"
                  have eg : good μ.key ⟨zm, zc, za, zs⟩ μ.num (bk μ 5 + 1) 1 = true := by
                    have : zs = sgn μ.key zm zc za 1 := by simpa using e5
                    simp [good, ea, f1, f2, this]
                  rw [eg] at k
                  exact k _ m1
                · wtm_at "go"
                  refine bad ?_ _ Mx.refl
                  have : ¬ zs = sgn μ.key zm zc za 1 := by simpa using e5
                  rw [f1, f2] at this
                  simp [good, ea, f1, f2, this]
            · wtm_at "go"
              refine g_yes rfl ?_
              wtm_at "go"
              refine bad ?_ _ Mx.refl
              have : amt za = false := by simp at e3; simp [amt]; omega
              simp [good, this]
end
end Fk
namespace Fk
open PySem PySem.Spec PyProof.Rows L2
local macro_rules | `(tactic| wtm_at "ln") => `(tactic| first
  | omega
  | (simp only [List.length_cons, List.length_nil, List.length_map, List.length_append, List.length_replicate, List.length_take, List.length_drop, List.length_set]; omega)
  | (with_unfolding_all exact (by decide)))
local macro_rules | `(tactic| wtm_at "ar") => `(tactic| first
  | ((with_reducible show CMulW _ _); (refine' mulS ?_ ?_ <;> omega))
  | ((with_reducible show CDivW _ _); (refine' divS ?_ ?_ <;> omega))
  | ((with_reducible show CPow _ _); exact ⟨by decide, by decide, by decide⟩)
  | (show (0 : Int) < _; omega)
  | (with_unfolding_all exact (by decide)))
local macro_rules | `(tactic| wtm_at "at") => `(tactic| first
  | assumption
  | (refine' cl_atE ?e80 ?h80; (case' e80 => first | exact rfl | assumption); (case' h80 => wtm_at "ln"))
  | exact rfl)
local macro_rules | `(tactic| wtm_at "fr") => `(tactic| first
  | assumption
  | ((with_reducible refine' Mx.free0 ?m99 ?h99); (case' h99 => assumption); (case' m99 => wtm_at "mo")))
local macro_rules | `(tactic| wtm_at "hp") => `(tactic| first
  | assumption
  | ((with_reducible refine' Mx.get0 ?m1 ?h1); (case' m1 => assumption); (case' h1 => wtm_at "hp"))
  | ((with_reducible refine' Mx.get ?m2 ?n2 ?h2); (case' m2 => assumption); (case' n2 => wtm_at "nin"); (case' h2 => wtm_at "hp")))
local macro_rules | `(tactic| wtm_at "sl") => `(tactic| first
  | assumption
  | ((with_reducible refine' Mx.sqL0 ?m96 ?h96); (case' h96 => assumption); (case' m96 => wtm_at "mo"))
  | (refine' SqL.of ?h3; (case' h3 => wtm_at "hp"))
  | ((with_reducible refine' Mx.sqL0 ?m4 ?h4); (case' m4 => assumption); (case' h4 => wtm_at "sl"))
  | ((with_reducible refine' Mx.sqL ?m5 ?n5 ?h5); (case' m5 => assumption); (case' n5 => wtm_at "nin"); (case' h5 => wtm_at "sl")))
local macro_rules | `(tactic| wtm_at "st") => `(tactic| first
  | assumption
  | ((with_reducible refine' Mx.sqT0 ?m97 ?h97); (case' h97 => assumption); (case' m97 => wtm_at "mo"))
  | (refine' SqT.of ?h6; (case' h6 => wtm_at "hp"))
  | ((with_reducible refine' Mx.sqT0 ?m7 ?h7); (case' m7 => assumption); (case' h7 => wtm_at "st"))
  | ((with_reducible refine' Mx.sqT ?m8 ?n8 ?h8); (case' m8 => assumption); (case' n8 => wtm_at "nin"); (case' h8 => wtm_at "st")))
local macro_rules | `(tactic| wtm_at "mx") => `(tactic| first
  | assumption
  | exact Mx.refl
  | ((with_reducible refine' Mx.of0 ?h9); (case' h9 => assumption))
  | ((with_reducible refine' Mx.trans ?h10 ?m10); (case' m10 => first | assumption | ((with_reducible refine' Mx.of0 ?q10); (case' q10 => assumption))); (case' h10 => wtm_at "mx")))
local macro_rules | `(tactic| wtm_at "mo") => `(tactic| first
  | wtm_at "mx"
  | ((with_reducible refine' Mx.own ?m90 ?f90 ?k90); (case' k90 => assumption); (case' f90 => wtm_at "fr"); (case' m90 => wtm_at "mo"))
  | ((with_reducible refine' Mx.trans ?h91 ?m91); (case' m91 => first | assumption | ((with_reducible refine' Mx.of0 ?q91); (case' q91 => assumption))); (case' h91 => wtm_at "mo")))
local macro_rules | `(tactic| wtm_at "ne") => `(tactic| first
  | assumption
  | exact Ne.symm (by assumption)
  | ((with_reducible refine' ne_of_none ?x94 ?y94); (case' y94 => assumption); (case' x94 => wtm_at "hp"))
  | ((with_reducible refine' Ne.symm (ne_of_none ?x95 ?y95)); (case' y95 => assumption); (case' x95 => wtm_at "hp")))
local macro_rules | `(tactic| wtm_at "nin") => `(tactic| first
  | assumption
  | exact List.not_mem_nil
  | ((with_reducible refine' List.not_mem_cons_of_ne_of_not_mem ?h98 ?t98); (case' h98 => wtm_at "ne"); (case' t98 => wtm_at "nin")))
local macro_rules | `(tactic| wtm_at "g1") => `(tactic| first
  | ((with_reducible refine' g_var ?h11 ?k11); (case' h11 => exact rfl))
  | with_reducible refine' g_c ?_
  | with_reducible refine' g_op ?_
  | with_reducible refine' g_I0 ?_
  | ((with_reducible refine' g_I ?c12 ?k12); (case' c12 => wtm_at "ar"))
  | with_reducible refine' g_cons ?_
  | with_reducible refine' g_nil ?_
  | with_reducible refine' g_seq ?_
  | with_reducible refine' g_asg ?_
  | with_reducible refine' g_name ?_
  | with_reducible refine' g_ret ?_
  | with_reducible refine' g_if ?_
  | with_reducible refine' g_test ?_
  | with_reducible refine' g_tB ?_
  | with_reducible refine' g_bl ?_
  | ((with_reducible refine' g_eq ?h13 ?k13); (case' h13 => exact rfl))
  | ((with_reducible refine' g_ne ?h14 ?k14); (case' h14 => exact rfl))
  | with_reducible refine' g_CB ?_
  | with_reducible refine' g_call ?_
  | with_reducible refine' g_drop ?_
  | with_reducible refine' g_next ?_
  | with_reducible refine' g_not ?_
  | with_reducible refine' g_and ?_
  | with_reducible refine' g_or ?_
  | with_reducible refine' g_un ?_
  | with_reducible refine' g_U ?_
  | with_reducible refine' g_tup ?_
  | with_reducible refine' g_lst ?_
  | ((with_reducible refine' g_kNew ?h15 ?k15); (case' h15 => wtm_at "ln"); (case' k15 => intro _ _ _ _ _))
  | ((with_reducible refine' g_ixL ?h16 ?a16 ?k16); (case' h16 => wtm_at "sl"); (case' a16 => wtm_at "at"))
  | ((with_reducible refine' g_ixT ?h17 ?a17 ?k17); (case' h17 => wtm_at "st"); (case' a17 => wtm_at "at"))
  | with_reducible refine' g_slice ?_
  | with_reducible refine' g_part ?_
  | with_reducible refine' g_kPart ?_
  | with_reducible refine' g_noPart ?_
  | ((with_reducible refine' g_slL ?h18 ?k18); (case' h18 => wtm_at "sl"); (case' k18 => intro _ _ _ _ _))
  | ((with_reducible refine' g_cat ?h119 ?h219 ?l19 ?k19); (case' h119 => wtm_at "hp"); (case' h219 => wtm_at "hp"); (case' l19 => wtm_at "ln"); (case' k19 => intro _ _ _ _ _))
  | ((with_reducible refine' g_rep ?h120 ?h220 ?h320 ?l20 ?k20); (case' h120 => wtm_at "hp"); (case' h220 => wtm_at "ln"); (case' h320 => wtm_at "ln"); (case' l20 => wtm_at "ln"); (case' k20 => intro _ _ _ _ _))
  | ((with_reducible refine' g_append ?h21 ?l21 ?k21); (case' h21 => wtm_at "hp"); (case' l21 => wtm_at "ln"); (case' k21 => intro _ _ _))
  | ((with_reducible refine' g_kBM ?h22 ?k22); (case' h22 => wtm_at "sl"))
  | ((with_reducible refine' g_kBM0 ?h23 ?k23); (case' h23 => wtm_at "sl"))
  | ((with_reducible refine' g_kL ?h24 ?k24); (case' h24 => wtm_at "sl"))
  | ((with_reducible refine' g_kR1 ?h125 ?h225 ?k25); (case' h125 => wtm_at "ln"); (case' h225 => wtm_at "ln"))
  | ((with_reducible refine' g_kR2 ?h126 ?h226 ?h326 ?h426 ?k26); (case' h126 => wtm_at "ln"); (case' h226 => wtm_at "ln"); (case' h326 => wtm_at "ln"); (case' h426 => wtm_at "ln"))
  | ((with_reducible refine' g_lenL ?h27 ?k27); (case' h27 => wtm_at "sl"))
  | ((with_reducible refine' g_lenT ?h28 ?k28); (case' h28 => wtm_at "st"))
  | ((with_reducible refine' g_listL ?h29 ?k29); (case' h29 => wtm_at "sl"); (case' k29 => intro _ _ _ _ _))
  | ((with_reducible refine' g_tupleL ?h30 ?k30); (case' h30 => wtm_at "sl"); (case' k30 => intro _ _ _ _ _))
  | with_reducible refine' g_max ?_
  | with_reducible refine' g_min ?_
  | with_reducible refine' g_intB ?_
  | with_reducible refine' g_fld ?_
  | with_reducible refine' g_put ?_
  | with_reducible refine' g_dget ?_
  | with_reducible refine' g_isN ?_
  | with_reducible refine' g_notN ?_
  | with_reducible refine' g_ifE ?_
  | with_reducible refine' g_andV ?_
  | with_reducible refine' g_orV ?_
  | with_reducible refine' g_notV ?_
  | with_reducible refine' g_kIf ?_
  | with_reducible refine' g_chain ?_
  | with_reducible refine' g_kCh ?_
  | with_reducible refine' g_sub ?_
  | ((with_reducible refine' g_setI ?h92 ?e92 ?j92 ?k92); (case' h92 => wtm_at "hp"); (case' e92 => first | exact rfl | assumption); (case' j92 => wtm_at "ln"); (case' k92 => intro _ _ _))
  | ((with_reducible refine' g_setL ?h89 ?i89 ?k89); (case' h89 => wtm_at "hp"); (case' i89 => exact ixE rfl (by wtm_at "ln")); (case' k89 => intro _ _ _))
  | ((with_reducible refine' g_gtup ?h93 ?e93 ?k93); (case' h93 => wtm_at "st"); (case' e93 => exact rfl))
  | with_reducible refine' g_gcons ?_
  | with_reducible refine' g_gnil ?_
  | with_reducible refine' g_par ?_
  | with_reducible refine' g_kPar ?_
  | with_reducible refine' g_meth ?_
  | with_reducible refine' g_bm ?_
  | with_reducible refine' g_bm0 ?_
  | with_reducible refine' g_raise ?_
  | with_reducible refine' g_for ?_
  | with_reducible refine' g_iR1 ?_
  | with_reducible refine' g_iR2 ?_
  | with_reducible refine' g_iL ?_
  | with_reducible refine' g_lc ?_
  | with_reducible refine' g_retN ?_
  | with_reducible refine' g_no (b := false) rfl ?_
  | with_reducible refine' g_yes (b := true) rfl ?_)
local macro_rules | `(tactic| wtm_at "go") => `(tactic| repeat (wtm_at "g1"))
local macro_rules | `(tactic| wtm_at "gs") => `(tactic| repeat ((fail_if_success (with_reducible refine' g_ifE ?_)); wtm_at "g1"))
local macro_rules | `(tactic| wtm_at "gi") => `(tactic| repeat ((fail_if_success (with_reducible refine' g_if ?_)); wtm_at "g1"))
local macro_rules | `(tactic| wtm_at "gr") => `(tactic| repeat ((fail_if_success (with_reducible refine' g_ret ?_)); wtm_at "g1"))
local macro_rules | `(tactic| wtm_at "gq") => `(tactic| repeat ((fail_if_success (with_reducible refine' g_asg ?_)); wtm_at "g1"))
/-! ### what a deed is to tell -/
def topChsL (μ : Mt) (z : Cd) : List (Nat × Int) := [(3, bk μ 3 + z.a), (4, bk μ 4 + z.a), (5, bk μ 5 + 1)]
def chsOf (μ : Mt) : Dd → List (Nat × Int)
  | .stamp a => stampChs μ a
  | .back a => backChs μ a
  | .top z => topChsL μ z
  | .up => []
def toldOf (μ : Mt) : Dd → PyData
  | .stamp _ => .int (bk μ 8 + 1)
  | .back a => cdD (mkCd μ.key μ.num (bk μ 6 + 1) a 2)
  | .top z => .int z.a
  | .up => .none
/-- a deed gone through: what it tells, what the meter is then -/
def dueM (μ : Mt) (d : Dd) (cut : Option Nat) : PyData × Mt :=
  match d with
  | .up => if μ.up = true then (.str "Up", μ) else match owed μ with
    | none => (.bool true, { μ with up := true })
    | some s => if cut = some 0 then (.none, μ) else (.bool true, { μ with stamps := μ.stamps ++ [s], up := true })
  | d => match refR μ d with
    | some r => (.str r.word, μ)
    | none => (if (runM μ (chsOf μ d) cut).1 = true then toldOf μ d else .none, (runM μ (chsOf μ d) cut).2)
theorem dueM_ref {μ : Mt} {d : Dd} {cut : Option Nat} {r : Rf} (hd : d ≠ .up) (h : refR μ d = some r) : dueM μ d cut = (.str r.word, μ) := by
  cases d with
  | up => exact absurd rfl hd
  | stamp a => simp only [dueM, h]
  | back a => simp only [dueM, h]
  | top z => simp only [dueM, h]
theorem dueM_run {μ : Mt} {d : Dd} {cut : Option Nat} (hd : d ≠ .up) (h : refR μ d = none) : dueM μ d cut = (if (runM μ (chsOf μ d) cut).1 = true then toldOf μ d else .none, (runM μ (chsOf μ d) cut).2) := by
  cases d with
  | up => exact absurd rfl hd
  | stamp a => simp only [dueM, h]
  | back a => simp only [dueM, h]
  | top z => simp only [dueM, h]
theorem chsOf_ok (μ : Mt) (d : Dd) : Chs (chsOf μ d) := by
  cases d with
  | stamp a => exact stampChs_ok μ a
  | back a => exact backChs_ok μ a
  | top z => intro c hc; simp [chsOf, topChsL] at hc; rcases hc with rfl | rfl | rfl <;> simp
  | up => intro c hc; simp [chsOf] at hc
theorem chsOf_nd (μ : Mt) (d : Dd) : ((chsOf μ d).map (·.1)).Nodup := by
  cases d <;> simp [chsOf, stampChs, backChs, topChsL]
theorem word_ne (r : Rf) : ¬ r.word = "" := by cases r <;> decide +kernel
section
variable {P : Program} {w : World} {K : PySem.W.Frag} {mg : Str → Option Value} {base : Heap}
local macro_rules | `(tactic| wtm_at "g1") => `(tactic| first
  | ((with_reducible refine' g_fOwn (by assumption) ?h201 ?k201); (case' h201 => wtm_at "hp"))
  | ((with_reducible refine' g_fKey (by assumption) ?h202 ?k202); (case' h202 => wtm_at "hp"))
  | ((with_reducible refine' g_fMem (by assumption) ?h203 ?k203); (case' h203 => wtm_at "hp"))
  | ((with_reducible refine' g_fPri (by assumption) ?h204 ?k204); (case' h204 => wtm_at "hp"))
  | ((with_reducible refine' g_fAwa (by assumption) ?h205 ?k205); (case' h205 => wtm_at "hp"))
  | ((with_reducible refine' g_pAwa (by assumption) ?h206 ?k206); (case' h206 => wtm_at "hp"); (case' k206 => intro _ _ _))
  | ((with_reducible refine' g_kMeth ?h207 ?l207 ?k207); (case' h207 => wtm_at "hp"); (case' l207 => exact rfl)))

local macro_rules | `(tactic| wtm_at "g1") => `(tactic| first
  | ((with_reducible refine' g_dNum ?h311 ?k311); (case' h311 => wtm_at "hp"))
  | ((with_reducible refine' g_dKey ?h312 ?k312); (case' h312 => wtm_at "hp"))
  | ((with_reducible refine' g_dCe ?h313 ?k313); (case' h313 => wtm_at "hp"))
  | ((with_reducible refine' g_dSt ?h314 ?k314); (case' h314 => wtm_at "hp"))
  | ((with_reducible refine' g_dUp ?h315 ?k315); (case' h315 => wtm_at "hp"))
  | ((with_reducible refine' g_kDGetS ?h301 ?l301 ?k301); (case' h301 => wtm_at "hp"); (case' l301 => exact rfl))
  | (with_reducible refine' g_dput ?_)
  | (with_reducible refine' g_iK ?_)
  | ((with_reducible refine' g_disp ?k305); (case' k305 => intro _ _ _ _ _))
  | (with_reducible refine' g_pcons ?_)
  | (with_reducible refine' g_pnil ?_)
  | ((with_reducible refine' g_kDisp ?h306 ?e306 ?f306 ?l306 ?k306); (case' h306 => wtm_at "hp"); (case' e306 => exact rfl); (case' f306 => exact rfl); (case' l306 => wtm_at "ln"); (case' k306 => intro _ _ _))
  | ((with_reducible refine' g_pUp ?h302 ?k302); (case' h302 => wtm_at "hp"); (case' k302 => intro _ _ _))
  | ((with_reducible refine' g_pSt ?h303 ?k303); (case' h303 => wtm_at "hp"); (case' k303 => intro _ _ _))
  | ((with_reducible refine' g_pCe ?h304 ?k304); (case' h304 => wtm_at "hp"); (case' k304 => intro _ _ _)))

def spLDue : Sp := fun vs H Q _ => ∃ (q qc qs t : Addr) (μ : Mt) (d : Dd) (cut : Option Nat), vs = [.ref q, .ref t, cutO cut] ∧ LmAt K H q qc qs μ ∧ Any μ.cells ∧ Sm μ ∧ μ.stamps.length < 1000 ∧ DdAt H t d ∧
  ∀ v qs' H', (qs' = qs ∨ H qs' = none) → Mx [q, qc, qs] H H' → LmAt K H' q qc qs' (dueM μ d cut).2 → Dp K H' v (dueM μ d cut).1 → Q v H'
theorem c__law_due (T : Tx K mg) : Cl P w K mg base 4 "_law_due" (spLDue (K := K)) [] := by
  refine T.f__law_due.cl sc__law_due (fun vs H Q E h => ?_) (fun cdv A outer s H vs Q E hr h => ?_)
  · obtain ⟨_, _, _, _, _, _, _, rfl, _⟩ := h
    rfl
  · obtain ⟨q, qc, qs, t, μ, d, cut, rfl, M, hA, hS, hst, hd, k⟩ := h
    have M0 := M
    obtain ⟨ob, ce, ⟨ss, st, dp⟩, ne⟩ := M
    have q1 := M0.q_qc
    have q2 := M0.q_qs
    have hl := hA.1
    have hb := bank_len hl
    have hu := hu_of hr
    have lss : ss.length < 1000 := by rw [dp.len, List.length_map]; exact hst
    refine ⟨_, (pss_cons (ps_if (pt_cmpR op_eq (pe_ix (ixT K) (pv 1) pe_int (fun _ _ => rfl)) pe_str (by first | exact nomark _ | rfl)) (pss_cons (ps_if (pt_val (pe_dget hu (pv 0) pe_str (fun _ _ => rfl))) (pss_one (ps_ret pe_str)) pss_nil)
      (pss_cons (ps_set (i := 3) sc__law_due.nd rfl (Or.inl rfl) (q_call (c__law_owed T) hr (by decide) rfl (passes_call (takes_of rfl rfl rfl rfl) (fun _ _ _ _ h => h)) (pa_cons (pv 0) pa_nil)))
      (pss_cons (ps_if (PW.pt (pw_and (pt_cmp (pc_notN (pv 3)) rfl) (pw_and1 (pt_cmpR op_eq (pv 2) pe_int (by first | exact nomark _ | rfl))))) (pss_one (ps_ret pe_non)) pss_nil)
      (pss_cons (ps_dput hu (pv 0) pe_str (pe_op op_cat (pe_dget hu (pv 0) pe_str (fun _ _ => rfl)) (pe_op op_rep (pe_lst (pa_cons (pv 3) pa_nil)) (pe_callTy c_int (by rfl) T.n_int (by decide +kernel) (pa_cons (pe_cmp (pc_notN (pv 3)) rfl) pa_nil)))) rfl)
      (pss_cons (ps_dput hu (pv 0) pe_str pe_bl rfl)
      (pss_one (ps_ret pe_bl))))))) pss_nil)
      (pss_cons (ps_set (i := 4) sc__law_due.nd rfl (Or.inl rfl) (q_call (c__law_word T) hr (by decide) rfl (passes_call (takes_of rfl rfl rfl rfl) (fun _ _ _ _ h => h)) (pa_cons (pv 0) (pa_cons (pv 1) pa_nil))))
      (pss_cons (ps_if (pt_cmpR op_ne (pv 4) pe_str (by first | exact nomark _ | rfl)) (pss_one (ps_ret (pv 4))) pss_nil)
      (pss_cons (ps_set (i := 5) sc__law_due.nd rfl (Or.inl rfl) (q_call (c__law_bank T) hr (by decide) rfl (passes_call (takes_of rfl rfl rfl rfl) (fun _ _ _ _ h => h)) (pa_cons (pe_dget hu (pv 0) pe_str (fun _ _ => rfl)) pa_nil)))
      (pss_cons (ps_if (pt_cmpR op_eq (pe_ix (ixT K) (pv 1) pe_int (fun _ _ => rfl)) pe_str (by first | exact nomark _ | rfl)) (pss_cons (ps_set (i := 6) sc__law_due.nd rfl (Or.inl rfl) (pe_op op_add (pe_ix (ixL K) (pv 5) pe_int (fun _ _ => rfl)) pe_int))
      (pss_one (ps_set (i := 7) sc__law_due.nd rfl (Or.inl rfl) (pe_disp (pps_cons pe_int (pe_op op_add (pe_ix (ixL K) (pv 5) pe_int (fun _ _ => rfl)) (pe_ix (ixT K) (pv 1) pe_int (fun _ _ => rfl))) (pps_cons pe_int (pe_op op_sub (pe_ix (ixL K) (pv 5) pe_int (fun _ _ => rfl)) (pe_ix (ixT K) (pv 1) pe_int (fun _ _ => rfl))) (pps_cons pe_int (pv 6) (pps_cons pe_int (pe_ix (ixT K) (pv 1) pe_int (fun _ _ => rfl)) pps_nil)))) (by rfl) (by rfl) (fun z => by cases z) (by decide))))) (pss_one (ps_if (pt_cmpR op_eq (pe_ix (ixT K) (pv 1) pe_int (fun _ _ => rfl)) pe_str (by first | exact nomark _ | rfl)) (pss_cons (ps_set (i := 6) sc__law_due.nd rfl (Or.inl rfl) (pe_ix (ixT K) (pe_ix (ixT K) (pv 1) pe_int (fun _ _ => rfl)) pe_int (fun _ _ => rfl)))
      (pss_one (ps_set (i := 7) sc__law_due.nd rfl (Or.inl rfl) (pe_disp (pps_cons pe_int (pe_op op_add (pe_ix (ixL K) (pv 5) pe_int (fun _ _ => rfl)) (pv 6)) (pps_cons pe_int (pe_op op_add (pe_ix (ixL K) (pv 5) pe_int (fun _ _ => rfl)) (pv 6)) (pps_cons pe_int (pe_op op_add (pe_ix (ixL K) (pv 5) pe_int (fun _ _ => rfl)) pe_int) pps_nil))) (by rfl) (by rfl) (fun z => by cases z) (by decide))))) (pss_cons (ps_set (i := 6) sc__law_due.nd rfl (Or.inl rfl) (q_call (c__law_code T) hr (by decide) rfl (passes_call (takes_of rfl rfl rfl rfl) (fun _ _ _ _ h => h)) (pa_cons (pe_dget hu (pv 0) pe_str (fun _ _ => rfl)) (pa_cons (pe_dget hu (pv 0) pe_str (fun _ _ => rfl)) (pa_cons (pe_op op_add (pe_ix (ixL K) (pv 5) pe_int (fun _ _ => rfl)) pe_int) (pa_cons (pe_ix (ixT K) (pv 1) pe_int (fun _ _ => rfl)) (pa_cons pe_int pa_nil)))))))
      (pss_one (ps_set (i := 7) sc__law_due.nd rfl (Or.inl rfl) (pe_disp (pps_cons pe_int (pe_op op_sub (pe_ix (ixL K) (pv 5) pe_int (fun _ _ => rfl)) (pe_ix (ixT K) (pv 1) pe_int (fun _ _ => rfl))) (pps_cons pe_int (pe_op op_sub (pe_ix (ixL K) (pv 5) pe_int (fun _ _ => rfl)) (pe_ix (ixT K) (pv 1) pe_int (fun _ _ => rfl))) (pps_cons pe_int (pe_op op_add (pe_ix (ixL K) (pv 5) pe_int (fun _ _ => rfl)) pe_int) (pps_cons pe_int (pe_ix (ixT K) (pv 1) pe_int (fun _ _ => rfl)) pps_nil)))) (by rfl) (by rfl) (fun z => by cases z) (by decide))))))))
      (pss_one (ps_ret (pe_ifExp (pt_val (q_call (c__law_run T) hr (by decide) rfl (passes_call (takes_of rfl rfl rfl rfl) (fun _ _ _ _ h => h)) (pa_cons (pv 0) (pa_cons (pv 7) (pa_cons (pv 2) pa_nil))))) (pv 6) pe_non)))))))), ?_⟩
    by_cases hup : d = .up
    · subst hup
      have hd1 : H t = some (.tup [.str "come_up"]) := hd
      wtm_at "go"
      refine g_yes (by decide +kernel) ?_
      wtm_at "go"
      refine g_ite (fun e => ?_) (fun e => ?_)
      · have eu : μ.up = true := e
        have ed : dueM μ .up cut = (.str "Up", μ) := by simp [dueM, eu]
        rw [ed] at k
        wtm_at "go"
        exact k _ qs _ (.inl rfl) Mx.refl M0 (.str _)
      · have eu : ¬ μ.up = true := by simpa using e
        wtm_at "go"
        refine ⟨q, qc, qs, μ, rfl, M0, hA, hst, ?_⟩
        cases eo : owed μ with
        | none =>
          intro H1 m1
          have ed : dueM μ .up cut = (.bool true, { μ with up := true }) := by simp [dueM, eu, eo]
          rw [ed] at k
          wtm_at "go"
          refine g_no (by simp) ?_
          wtm_at "go"
          rename_i l2 H2 n2 m2 e2 l3 H3 n3 m3 e3
          have e3' : H3 l3 = some (.lst []) := e3
          clear e3
          wtm_at "go"
          rename_i l4 H4 n4 m4 e4 H5 m5 e5 H6 m6 e6
          rw [List.append_nil] at e4
          have c4 : Mx [] H H4 := by wtm_at "mo"
          have d1 : l4 ≠ q := by wtm_at "ne"
          have d2 : l4 ≠ qc := by wtm_at "ne"
          have ob4 := c4.get0 ob
          refine k _ l4 H6 (.inr (by wtm_at "fr")) (((c4.of0).trans (m5.mono (by simp))).trans (m6.mono (by simp))) ⟨e6, ?_, ⟨ss, ?_, ?_⟩, d2.symm⟩ (.bl _)
          · exact m6 _ _ (m5 _ _ (c4.get0 ce) (by simpa using q1.symm)) (by simpa using q1.symm)
          · exact m6 _ _ (m5 _ _ e4 (by simpa using d1)) (by simpa using d1)
          · exact m6.sts (noTupD e5) (m5.sts (noTupD ob4) (dp.mx c4))
        | some s =>
          intro l H1 n1 m1 e1
          wtm_at "go"
          refine g_yes (by simp) ?_
          wtm_at "go"
          refine g_eq (scal_cut _) ?_
          wtm_at "go"
          refine g_ite (fun e => ?_) (fun e => ?_)
          · have e0 := cut_zero e
            have ed : dueM μ .up cut = (.none, μ) := by simp [dueM, eu, eo, e0]
            rw [ed] at k
            wtm_at "go"
            exact k _ qs _ (.inl rfl) m1.of0 (M0.mx0 m1) .non
          · have e0 := cut_pos e
            have ed : dueM μ .up cut = (.bool true, { μ with stamps := μ.stamps ++ [s], up := true }) := by simp [dueM, eu, eo, e0]
            rw [ed] at k
            wtm_at "go"
            rename_i l2 H2 n2 m2 e2 l3 H3 n3 m3 e3
            have e3' : H3 l3 = some (.lst [.ref l]) := e3
            clear e3
            wtm_at "go"
            rename_i l4 H4 n4 m4 e4 H5 m5 e5 H6 m6 e6
            have c41 : Mx [] H1 H4 := by wtm_at "mo"
            have c4 : Mx [] H H4 := by wtm_at "mo"
            have d1 : l4 ≠ q := by wtm_at "ne"
            have d2 : l4 ≠ qc := by wtm_at "ne"
            have ob4 := c4.get0 ob
            refine k _ l4 H6 (.inr (by wtm_at "fr")) (((c4.of0).trans (m5.mono (by simp))).trans (m6.mono (by simp))) ⟨e6, ?_, ⟨ss ++ [.ref l], ?_, ?_⟩, d2.symm⟩ (.bl _)
            · exact m6 _ _ (m5 _ _ (c4.get0 ce) (by simpa using q1.symm)) (by simpa using q1.symm)
            · exact m6 _ _ (m5 _ _ e4 (by simpa using d1)) (by simpa using d1)
            · have dl : DpAll K H4 (ss ++ [.ref l]) ((μ.stamps ++ [s]).map stD) := by
                rw [List.map_append]
                exact (dp.mx c4).app (.cons (.mkSt (.of (c41.get0 e1))) .nil)
              exact m6.sts (noTupD e5) (m5.sts (noTupD ob4) dl)
    · have t0 : ∃ sx rest, H t = some (.tup [.str sx, rest]) ∧ ¬ sx = "come_up" := by
        cases d with
        | up => exact absurd rfl hup
        | stamp a => exact ⟨_, _, hd, by decide +kernel⟩
        | back a => exact ⟨_, _, hd, by decide +kernel⟩
        | top z => obtain ⟨c, h1, _⟩ := hd; exact ⟨_, _, h1, by decide +kernel⟩
      obtain ⟨sx, rest, ht, hsx⟩ := t0
      wtm_at "go"
      refine g_no (by simpa using hsx) ?_
      wtm_at "go"
      refine ⟨q, qc, qs, t, μ, d, rfl, M0, hA, hS, hd, hup, fun H1 m1 => ?_⟩
      wtm_at "go"
      cases er : refR μ d with
      | some r =>
        have ed := dueM_ref (cut := cut) hup er
        rw [ed] at k
        refine g_yes (by simpa [wordOf] using word_ne r) ?_
        wtm_at "go"
        exact k _ qs _ (.inl rfl) m1.of0 (M0.mx0 m1) (.str _)
      | none =>
        have ed := dueM_run (cut := cut) hup er
        rw [ed] at k
        refine g_no (by simp [wordOf]) ?_
        wtm_at "go"
        refine ⟨qc, μ.cells, rfl, by wtm_at "sl", hA, fun b H2 n2 m2 e2 => ?_⟩
        cases d with
        | up => exact absurd rfl hup
        | stamp a =>
          have hx : sx = "stamp" ∧ rest = .int a := by
            have := ht.symm.trans hd
            simpa using this
          obtain ⟨rfl, rfl⟩ := hx
          wtm_at "go"
          refine g_yes (by decide +kernel) ?_
          wtm_at "go"
          rename_i nd H3 n3 m3 e3 H4 m4 e4
          have cN : Mx [] H H4 := by wtm_at "mo"
          have eN : H4 nd = some (.dK (newsKvs (chsOf μ (.stamp a)))) := e4
          refine ⟨q, qc, qs, nd, μ, _, cut, rfl, M0.mx0 cN, hA, hst, eN, chsOf_nd μ _, chsOf_ok μ _, fun H5 m5 M5 => ?_⟩
          wtm_at "go"
          refine g_ite (fun e5 => ?_) (fun e5 => ?_)
          · rw [if_pos e5] at k
            wtm_at "go"
            exact k _ qs _ (.inl rfl) (cN.of0.trans m5) M5 (.int _)
          · rw [if_neg (by simp [e5])] at k
            wtm_at "go"
            exact k _ qs _ (.inl rfl) (cN.of0.trans m5) M5 .non
        | top z =>
          obtain ⟨c, hd1, hd2⟩ := hd
          have hx : sx = "top_up" ∧ rest = .ref c := by
            have := ht.symm.trans hd1
            simpa using this
          obtain ⟨rfl, rfl⟩ := hx
          obtain ⟨zm, zc, za, zs⟩ := z
          simp only [Cd.vs] at hd2
          wtm_at "go"
          refine g_no (by decide +kernel) ?_
          wtm_at "go"
          refine g_yes (by decide +kernel) ?_
          wtm_at "go"
          rename_i nd H3 n3 m3 e3 H4 m4 e4
          have cN : Mx [] H H4 := by wtm_at "mo"
          have eN : H4 nd = some (.dK (newsKvs (chsOf μ (.top ⟨zm, zc, za, zs⟩)))) := e4
          refine ⟨q, qc, qs, nd, μ, _, cut, rfl, M0.mx0 cN, hA, hst, eN, chsOf_nd μ _, chsOf_ok μ _, fun H5 m5 M5 => ?_⟩
          wtm_at "go"
          refine g_ite (fun e5 => ?_) (fun e5 => ?_)
          · rw [if_pos e5] at k
            wtm_at "go"
            exact k _ qs _ (.inl rfl) (cN.of0.trans m5) M5 (.int _)
          · rw [if_neg (by simp [e5])] at k
            wtm_at "go"
            exact k _ qs _ (.inl rfl) (cN.of0.trans m5) M5 .non
        | back a =>
          have hx : sx = "give_back" ∧ rest = .int a := by
            have := ht.symm.trans hd
            simpa using this
          obtain ⟨rfl, rfl⟩ := hx
          obtain ⟨hs1, hs2, hs3⟩ := hS
          have h6 := hs3 6
          have ha2 : 1 ≤ a ∧ a ≤ 99999 := by
            refine amt_iff.mp (Classical.byContradiction fun hn => ?_)
            have hn2 : amt a = false := by simpa using hn
            have er2 : stampR μ a = none := er
            simp only [stampR, hn2, if_true] at er2
            split at er2 <;> cases er2
          wtm_at "go"
          refine g_no (by decide +kernel) ?_
          wtm_at "go"
          refine g_no (by decide +kernel) ?_
          wtm_at "go"
          refine ⟨μ.key, μ.num, bk μ 6 + 1, a, 2, rfl, by omega, by omega, by omega, by omega, by omega, fun tc Hc nc mc ec => ?_⟩
          wtm_at "go"
          rename_i nd H3 n3 m3 e3 H4 m4 e4
          have ec4 : H4 tc = some (.tup (mkCd μ.key μ.num (bk μ 6 + 1) a 2).vs) := by wtm_at "hp"
          have cN : Mx [] H H4 := by wtm_at "mo"
          have eN : H4 nd = some (.dK (newsKvs (chsOf μ (.back a)))) := e4
          have nt : NoTup H4 [q, qc, qs] := by
            refine .cons (noTupD (cN.get0 ob)) (.cons (noTup1 (cN.get0 ce)) (noTup1 (cN.get0 st)))
          refine ⟨q, qc, qs, nd, μ, _, cut, rfl, M0.mx0 cN, hA, hst, eN, chsOf_nd μ _, chsOf_ok μ _, fun H5 m5 M5 => ?_⟩
          wtm_at "go"
          refine g_ite (fun e5 => ?_) (fun e5 => ?_)
          · rw [if_pos e5] at k
            wtm_at "go"
            exact k _ qs _ (.inl rfl) (cN.of0.trans m5) M5 (.tup (.of (mx_tup m5 nt ec4)) (.cons (.int _) (.cons (.int _) (.cons (.int _) (.cons (.int _) .nil)))))
          · rw [if_neg (by simp [e5])] at k
            wtm_at "go"
            exact k _ qs _ (.inl rfl) (cN.of0.trans m5) M5 .non
end
end Fk
namespace Fk
open PySem PySem.Spec PyProof.Rows L2
local macro_rules | `(tactic| wtm_at "ln") => `(tactic| first
  | omega
  | (simp only [List.length_cons, List.length_nil, List.length_map, List.length_append, List.length_replicate, List.length_take, List.length_drop, List.length_set]; omega)
  | (with_unfolding_all exact (by decide)))
local macro_rules | `(tactic| wtm_at "ar") => `(tactic| first
  | ((with_reducible show CMulW _ _); (refine' mulS ?_ ?_ <;> omega))
  | ((with_reducible show CDivW _ _); (refine' divS ?_ ?_ <;> omega))
  | ((with_reducible show CPow _ _); exact ⟨by decide, by decide, by decide⟩)
  | (show (0 : Int) < _; omega)
  | (with_unfolding_all exact (by decide)))
local macro_rules | `(tactic| wtm_at "at") => `(tactic| first
  | assumption
  | (refine' cl_atE ?e80 ?h80; (case' e80 => first | exact rfl | assumption); (case' h80 => wtm_at "ln"))
  | exact rfl)
local macro_rules | `(tactic| wtm_at "fr") => `(tactic| first
  | assumption
  | ((with_reducible refine' Mx.free0 ?m99 ?h99); (case' h99 => assumption); (case' m99 => wtm_at "mo")))
local macro_rules | `(tactic| wtm_at "hp") => `(tactic| first
  | assumption
  | ((with_reducible refine' Mx.get0 ?m1 ?h1); (case' m1 => assumption); (case' h1 => wtm_at "hp"))
  | ((with_reducible refine' Mx.get ?m2 ?n2 ?h2); (case' m2 => assumption); (case' n2 => wtm_at "nin"); (case' h2 => wtm_at "hp")))
local macro_rules | `(tactic| wtm_at "sl") => `(tactic| first
  | assumption
  | ((with_reducible refine' Mx.sqL0 ?m96 ?h96); (case' h96 => assumption); (case' m96 => wtm_at "mo"))
  | (refine' SqL.of ?h3; (case' h3 => wtm_at "hp"))
  | ((with_reducible refine' Mx.sqL0 ?m4 ?h4); (case' m4 => assumption); (case' h4 => wtm_at "sl"))
  | ((with_reducible refine' Mx.sqL ?m5 ?n5 ?h5); (case' m5 => assumption); (case' n5 => wtm_at "nin"); (case' h5 => wtm_at "sl")))
local macro_rules | `(tactic| wtm_at "st") => `(tactic| first
  | assumption
  | ((with_reducible refine' Mx.sqT0 ?m97 ?h97); (case' h97 => assumption); (case' m97 => wtm_at "mo"))
  | (refine' SqT.of ?h6; (case' h6 => wtm_at "hp"))
  | ((with_reducible refine' Mx.sqT0 ?m7 ?h7); (case' m7 => assumption); (case' h7 => wtm_at "st"))
  | ((with_reducible refine' Mx.sqT ?m8 ?n8 ?h8); (case' m8 => assumption); (case' n8 => wtm_at "nin"); (case' h8 => wtm_at "st")))
local macro_rules | `(tactic| wtm_at "mx") => `(tactic| first
  | assumption
  | exact Mx.refl
  | ((with_reducible refine' Mx.of0 ?h9); (case' h9 => assumption))
  | ((with_reducible refine' Mx.trans ?h10 ?m10); (case' m10 => first | assumption | ((with_reducible refine' Mx.of0 ?q10); (case' q10 => assumption))); (case' h10 => wtm_at "mx")))
local macro_rules | `(tactic| wtm_at "mo") => `(tactic| first
  | wtm_at "mx"
  | ((with_reducible refine' Mx.own ?m90 ?f90 ?k90); (case' k90 => assumption); (case' f90 => wtm_at "fr"); (case' m90 => wtm_at "mo"))
  | ((with_reducible refine' Mx.trans ?h91 ?m91); (case' m91 => first | assumption | ((with_reducible refine' Mx.of0 ?q91); (case' q91 => assumption))); (case' h91 => wtm_at "mo")))
local macro_rules | `(tactic| wtm_at "ne") => `(tactic| first
  | assumption
  | exact Ne.symm (by assumption)
  | ((with_reducible refine' ne_of_none ?x94 ?y94); (case' y94 => assumption); (case' x94 => wtm_at "hp"))
  | ((with_reducible refine' Ne.symm (ne_of_none ?x95 ?y95)); (case' y95 => assumption); (case' x95 => wtm_at "hp")))
local macro_rules | `(tactic| wtm_at "nin") => `(tactic| first
  | assumption
  | exact List.not_mem_nil
  | ((with_reducible refine' List.not_mem_cons_of_ne_of_not_mem ?h98 ?t98); (case' h98 => wtm_at "ne"); (case' t98 => wtm_at "nin")))
local macro_rules | `(tactic| wtm_at "g1") => `(tactic| first
  | ((with_reducible refine' g_var ?h11 ?k11); (case' h11 => exact rfl))
  | with_reducible refine' g_c ?_
  | with_reducible refine' g_op ?_
  | with_reducible refine' g_I0 ?_
  | ((with_reducible refine' g_I ?c12 ?k12); (case' c12 => wtm_at "ar"))
  | with_reducible refine' g_cons ?_
  | with_reducible refine' g_nil ?_
  | with_reducible refine' g_seq ?_
  | with_reducible refine' g_asg ?_
  | with_reducible refine' g_name ?_
  | with_reducible refine' g_ret ?_
  | with_reducible refine' g_if ?_
  | with_reducible refine' g_test ?_
  | with_reducible refine' g_tB ?_
  | with_reducible refine' g_bl ?_
  | ((with_reducible refine' g_eq ?h13 ?k13); (case' h13 => exact rfl))
  | ((with_reducible refine' g_ne ?h14 ?k14); (case' h14 => exact rfl))
  | with_reducible refine' g_CB ?_
  | with_reducible refine' g_call ?_
  | with_reducible refine' g_drop ?_
  | with_reducible refine' g_next ?_
  | with_reducible refine' g_not ?_
  | with_reducible refine' g_and ?_
  | with_reducible refine' g_or ?_
  | with_reducible refine' g_un ?_
  | with_reducible refine' g_U ?_
  | with_reducible refine' g_tup ?_
  | with_reducible refine' g_lst ?_
  | ((with_reducible refine' g_kNew ?h15 ?k15); (case' h15 => wtm_at "ln"); (case' k15 => intro _ _ _ _ _))
  | ((with_reducible refine' g_ixL ?h16 ?a16 ?k16); (case' h16 => wtm_at "sl"); (case' a16 => wtm_at "at"))
  | ((with_reducible refine' g_ixT ?h17 ?a17 ?k17); (case' h17 => wtm_at "st"); (case' a17 => wtm_at "at"))
  | with_reducible refine' g_slice ?_
  | with_reducible refine' g_part ?_
  | with_reducible refine' g_kPart ?_
  | with_reducible refine' g_noPart ?_
  | ((with_reducible refine' g_slL ?h18 ?k18); (case' h18 => wtm_at "sl"); (case' k18 => intro _ _ _ _ _))
  | ((with_reducible refine' g_cat ?h119 ?h219 ?l19 ?k19); (case' h119 => wtm_at "hp"); (case' h219 => wtm_at "hp"); (case' l19 => wtm_at "ln"); (case' k19 => intro _ _ _ _ _))
  | ((with_reducible refine' g_rep ?h120 ?h220 ?h320 ?l20 ?k20); (case' h120 => wtm_at "hp"); (case' h220 => wtm_at "ln"); (case' h320 => wtm_at "ln"); (case' l20 => wtm_at "ln"); (case' k20 => intro _ _ _ _ _))
  | ((with_reducible refine' g_append ?h21 ?l21 ?k21); (case' h21 => wtm_at "hp"); (case' l21 => wtm_at "ln"); (case' k21 => intro _ _ _))
  | ((with_reducible refine' g_kBM ?h22 ?k22); (case' h22 => wtm_at "sl"))
  | ((with_reducible refine' g_kBM0 ?h23 ?k23); (case' h23 => wtm_at "sl"))
  | ((with_reducible refine' g_kL ?h24 ?k24); (case' h24 => wtm_at "sl"))
  | ((with_reducible refine' g_kR1 ?h125 ?h225 ?k25); (case' h125 => wtm_at "ln"); (case' h225 => wtm_at "ln"))
  | ((with_reducible refine' g_kR2 ?h126 ?h226 ?h326 ?h426 ?k26); (case' h126 => wtm_at "ln"); (case' h226 => wtm_at "ln"); (case' h326 => wtm_at "ln"); (case' h426 => wtm_at "ln"))
  | ((with_reducible refine' g_lenL ?h27 ?k27); (case' h27 => wtm_at "sl"))
  | ((with_reducible refine' g_lenT ?h28 ?k28); (case' h28 => wtm_at "st"))
  | ((with_reducible refine' g_listL ?h29 ?k29); (case' h29 => wtm_at "sl"); (case' k29 => intro _ _ _ _ _))
  | ((with_reducible refine' g_tupleL ?h30 ?k30); (case' h30 => wtm_at "sl"); (case' k30 => intro _ _ _ _ _))
  | with_reducible refine' g_max ?_
  | with_reducible refine' g_min ?_
  | with_reducible refine' g_intB ?_
  | with_reducible refine' g_fld ?_
  | with_reducible refine' g_put ?_
  | with_reducible refine' g_dget ?_
  | with_reducible refine' g_isN ?_
  | with_reducible refine' g_notN ?_
  | with_reducible refine' g_ifE ?_
  | with_reducible refine' g_andV ?_
  | with_reducible refine' g_orV ?_
  | with_reducible refine' g_notV ?_
  | with_reducible refine' g_kIf ?_
  | with_reducible refine' g_chain ?_
  | with_reducible refine' g_kCh ?_
  | with_reducible refine' g_sub ?_
  | ((with_reducible refine' g_setI ?h92 ?e92 ?j92 ?k92); (case' h92 => wtm_at "hp"); (case' e92 => first | exact rfl | assumption); (case' j92 => wtm_at "ln"); (case' k92 => intro _ _ _))
  | ((with_reducible refine' g_setL ?h89 ?i89 ?k89); (case' h89 => wtm_at "hp"); (case' i89 => exact ixE rfl (by wtm_at "ln")); (case' k89 => intro _ _ _))
  | ((with_reducible refine' g_gtup ?h93 ?e93 ?k93); (case' h93 => wtm_at "st"); (case' e93 => exact rfl))
  | with_reducible refine' g_gcons ?_
  | with_reducible refine' g_gnil ?_
  | with_reducible refine' g_par ?_
  | with_reducible refine' g_kPar ?_
  | with_reducible refine' g_meth ?_
  | with_reducible refine' g_bm ?_
  | with_reducible refine' g_bm0 ?_
  | with_reducible refine' g_raise ?_
  | with_reducible refine' g_for ?_
  | with_reducible refine' g_iR1 ?_
  | with_reducible refine' g_iR2 ?_
  | with_reducible refine' g_iL ?_
  | with_reducible refine' g_lc ?_
  | with_reducible refine' g_retN ?_
  | with_reducible refine' g_no (b := false) rfl ?_
  | with_reducible refine' g_yes (b := true) rfl ?_)
local macro_rules | `(tactic| wtm_at "go") => `(tactic| repeat (wtm_at "g1"))
local macro_rules | `(tactic| wtm_at "gs") => `(tactic| repeat ((fail_if_success (with_reducible refine' g_ifE ?_)); wtm_at "g1"))
local macro_rules | `(tactic| wtm_at "gi") => `(tactic| repeat ((fail_if_success (with_reducible refine' g_if ?_)); wtm_at "g1"))
local macro_rules | `(tactic| wtm_at "gr") => `(tactic| repeat ((fail_if_success (with_reducible refine' g_ret ?_)); wtm_at "g1"))
local macro_rules | `(tactic| wtm_at "gq") => `(tactic| repeat ((fail_if_success (with_reducible refine' g_asg ?_)); wtm_at "g1"))
/-! ### the same -/
mutual
/-- no dict within, no long list -/
def okD : PyData → Bool
  | .none | .bool _ | .int _ | .str _ => true
  | .list xs => okDs xs && decide (xs.length ≤ 40000)
  | .tuple xs => okDs xs && decide (xs.length ≤ 40000)
  | .dict _ => false
def okDs : List PyData → Bool
  | [] => true
  | x :: xs => okD x && okDs xs
end
theorem okDs_get : ∀ {xs : List PyData} {i : Nat} {d : PyData}, okDs xs = true → xs[i]? = some d → okD d = true
  | [], _, _, _, e => by simp at e
  | x :: xs, 0, d, h, e => by
    simp [okDs] at h; simp at e; subst e; exact h.1
  | x :: xs, i + 1, d, h, e => by
    simp [okDs] at h
    exact okDs_get h.2 (by simpa using e)
theorem depth_get : ∀ {xs : List PyData} {i : Nat} {d : PyData}, xs[i]? = some d → d.depth ≤ PyData.depthAll xs
  | [], _, _, e => by simp at e
  | x :: xs, 0, d, e => by
    simp at e; subst e
    rw [PyData.depthAll]
    exact Nat.le_max_left _ _
  | x :: xs, i + 1, d, e => by
    rw [PyData.depthAll]
    exact Nat.le_trans (depth_get (by simpa using e)) (Nat.le_max_right _ _)
theorem fm_none {n : Nat} : (List.range n).filterMap (fun _ => (none : Option V)) = [] := by
  induction n with
  | zero => rfl
  | succ n ih => rw [List.range_succ, List.filterMap_append, ih]; rfl
section
variable {P : Program} {w : World} {K : PySem.W.Frag} {mg : Str → Option Value} {base : Heap}
local macro_rules | `(tactic| wtm_at "g1") => `(tactic| first
  | ((with_reducible refine' g_fOwn (by assumption) ?h201 ?k201); (case' h201 => wtm_at "hp"))
  | ((with_reducible refine' g_fKey (by assumption) ?h202 ?k202); (case' h202 => wtm_at "hp"))
  | ((with_reducible refine' g_fMem (by assumption) ?h203 ?k203); (case' h203 => wtm_at "hp"))
  | ((with_reducible refine' g_fPri (by assumption) ?h204 ?k204); (case' h204 => wtm_at "hp"))
  | ((with_reducible refine' g_fAwa (by assumption) ?h205 ?k205); (case' h205 => wtm_at "hp"))
  | ((with_reducible refine' g_pAwa (by assumption) ?h206 ?k206); (case' h206 => wtm_at "hp"); (case' k206 => intro _ _ _))
  | ((with_reducible refine' g_kMeth ?h207 ?l207 ?k207); (case' h207 => wtm_at "hp"); (case' l207 => exact rfl)))

local macro_rules | `(tactic| wtm_at "g1") => `(tactic| first
  | ((with_reducible refine' g_dNum ?h311 ?k311); (case' h311 => wtm_at "hp"))
  | ((with_reducible refine' g_dKey ?h312 ?k312); (case' h312 => wtm_at "hp"))
  | ((with_reducible refine' g_dCe ?h313 ?k313); (case' h313 => wtm_at "hp"))
  | ((with_reducible refine' g_dSt ?h314 ?k314); (case' h314 => wtm_at "hp"))
  | ((with_reducible refine' g_dUp ?h315 ?k315); (case' h315 => wtm_at "hp"))
  | ((with_reducible refine' g_kDGetS ?h301 ?l301 ?k301); (case' h301 => wtm_at "hp"); (case' l301 => exact rfl))
  | (with_reducible refine' g_dput ?_)
  | (with_reducible refine' g_iK ?_)
  | ((with_reducible refine' g_disp ?k305); (case' k305 => intro _ _ _ _ _))
  | (with_reducible refine' g_pcons ?_)
  | (with_reducible refine' g_pnil ?_)
  | ((with_reducible refine' g_kDisp ?h306 ?e306 ?f306 ?l306 ?k306); (case' h306 => wtm_at "hp"); (case' e306 => exact rfl); (case' f306 => exact rfl); (case' l306 => wtm_at "ln"); (case' k306 => intro _ _ _))
  | ((with_reducible refine' g_pUp ?h302 ?k302); (case' h302 => wtm_at "hp"); (case' k302 => intro _ _ _))
  | ((with_reducible refine' g_pSt ?h303 ?k303); (case' h303 => wtm_at "hp"); (case' k303 => intro _ _ _))
  | ((with_reducible refine' g_pCe ?h304 ?k304); (case' h304 => wtm_at "hp"); (case' k304 => intro _ _ _)))

local macro_rules | `(tactic| wtm_at "dp") => `(tactic| first
  | assumption
  | ((with_reducible refine' Dp.mx ?m411 ?h411); (case' h411 => assumption); (case' m411 => wtm_at "mo")))
local macro_rules | `(tactic| wtm_at "kk") => `(tactic| first | exact kk_NoneType_tuple | exact kk_NoneType_list | exact kk_NoneType_str | exact kk_NoneType_bool | exact kk_NoneType_int | exact kk_bool_tuple | exact kk_bool_list | exact kk_bool_str | exact kk_bool_bool | exact kk_bool_int | exact kk_int_tuple | exact kk_int_list | exact kk_int_str | exact kk_int_bool | exact kk_int_int | exact kk_str_tuple | exact kk_str_list | exact kk_str_str | exact kk_str_bool | exact kk_str_int | exact kk_list_tuple | exact kk_list_list | exact kk_list_str | exact kk_list_bool | exact kk_list_int | exact kk_tuple_tuple | exact kk_tuple_list | exact kk_tuple_str | exact kk_tuple_bool | exact kk_tuple_int)
local macro_rules | `(tactic| wtm_at "ty") => `(tactic| first
  | assumption
  | ((with_reducible refine' TyX.mx ?m401 ?h401); (case' h401 => assumption); (case' m401 => wtm_at "mo")))
local macro_rules | `(tactic| wtm_at "g1") => `(tactic| first
  | ((with_reducible refine' g_isi ?t402 ?e402 ?k402); (case' t402 => wtm_at "ty"); (case' e402 => wtm_at "kk"))
  | ((with_reducible refine' g_isiT2 ?h403 ?t403 ?e403 ?f403 ?k403); (case' h403 => wtm_at "hp"); (case' t403 => wtm_at "ty"); (case' e403 => wtm_at "kk"); (case' f403 => wtm_at "kk"))
  | ((with_reducible refine' g_ixQL ?h404 ?a404 ?k404); (case' h404 => wtm_at "sl"); (case' a404 => wtm_at "at"))
  | ((with_reducible refine' g_ixQT ?h405 ?a405 ?k405); (case' h405 => wtm_at "st"); (case' a405 => wtm_at "at")))

def spSame (n : Nat) : Sp := fun vs H Q _ => ∃ (v1 v2 : V) (d : PyData), vs = [v1, v2] ∧ d.depth < n ∧ okD d = true ∧ Dp K H v1 d ∧ Dp K H v2 d ∧ ∀ H', Mx [] H H' → Q (.bl true) H'
end
end Fk
namespace Fk
open PySem PySem.Spec PyProof.Rows L2
local macro_rules | `(tactic| wtm_at "ln") => `(tactic| first
  | omega
  | (simp only [List.length_cons, List.length_nil, List.length_map, List.length_append, List.length_replicate, List.length_take, List.length_drop, List.length_set]; omega)
  | (with_unfolding_all exact (by decide)))
local macro_rules | `(tactic| wtm_at "ar") => `(tactic| first
  | ((with_reducible show CMulW _ _); (refine' mulS ?_ ?_ <;> omega))
  | ((with_reducible show CDivW _ _); (refine' divS ?_ ?_ <;> omega))
  | ((with_reducible show CPow _ _); exact ⟨by decide, by decide, by decide⟩)
  | (show (0 : Int) < _; omega)
  | (with_unfolding_all exact (by decide)))
local macro_rules | `(tactic| wtm_at "at") => `(tactic| first
  | assumption
  | (refine' cl_atE ?e80 ?h80; (case' e80 => first | exact rfl | assumption); (case' h80 => wtm_at "ln"))
  | exact rfl)
local macro_rules | `(tactic| wtm_at "fr") => `(tactic| first
  | assumption
  | ((with_reducible refine' Mx.free0 ?m99 ?h99); (case' h99 => assumption); (case' m99 => wtm_at "mo")))
local macro_rules | `(tactic| wtm_at "hp") => `(tactic| first
  | assumption
  | ((with_reducible refine' Mx.get0 ?m1 ?h1); (case' m1 => assumption); (case' h1 => wtm_at "hp"))
  | ((with_reducible refine' Mx.get ?m2 ?n2 ?h2); (case' m2 => assumption); (case' n2 => wtm_at "nin"); (case' h2 => wtm_at "hp")))
local macro_rules | `(tactic| wtm_at "sl") => `(tactic| first
  | assumption
  | ((with_reducible refine' Mx.sqL0 ?m96 ?h96); (case' h96 => assumption); (case' m96 => wtm_at "mo"))
  | (refine' SqL.of ?h3; (case' h3 => wtm_at "hp"))
  | ((with_reducible refine' Mx.sqL0 ?m4 ?h4); (case' m4 => assumption); (case' h4 => wtm_at "sl"))
  | ((with_reducible refine' Mx.sqL ?m5 ?n5 ?h5); (case' m5 => assumption); (case' n5 => wtm_at "nin"); (case' h5 => wtm_at "sl")))
local macro_rules | `(tactic| wtm_at "st") => `(tactic| first
  | assumption
  | ((with_reducible refine' Mx.sqT0 ?m97 ?h97); (case' h97 => assumption); (case' m97 => wtm_at "mo"))
  | (refine' SqT.of ?h6; (case' h6 => wtm_at "hp"))
  | ((with_reducible refine' Mx.sqT0 ?m7 ?h7); (case' m7 => assumption); (case' h7 => wtm_at "st"))
  | ((with_reducible refine' Mx.sqT ?m8 ?n8 ?h8); (case' m8 => assumption); (case' n8 => wtm_at "nin"); (case' h8 => wtm_at "st")))
local macro_rules | `(tactic| wtm_at "mx") => `(tactic| first
  | assumption
  | exact Mx.refl
  | ((with_reducible refine' Mx.of0 ?h9); (case' h9 => assumption))
  | ((with_reducible refine' Mx.trans ?h10 ?m10); (case' m10 => first | assumption | ((with_reducible refine' Mx.of0 ?q10); (case' q10 => assumption))); (case' h10 => wtm_at "mx")))
local macro_rules | `(tactic| wtm_at "mo") => `(tactic| first
  | wtm_at "mx"
  | ((with_reducible refine' Mx.own ?m90 ?f90 ?k90); (case' k90 => assumption); (case' f90 => wtm_at "fr"); (case' m90 => wtm_at "mo"))
  | ((with_reducible refine' Mx.trans ?h91 ?m91); (case' m91 => first | assumption | ((with_reducible refine' Mx.of0 ?q91); (case' q91 => assumption))); (case' h91 => wtm_at "mo")))
local macro_rules | `(tactic| wtm_at "ne") => `(tactic| first
  | assumption
  | exact Ne.symm (by assumption)
  | ((with_reducible refine' ne_of_none ?x94 ?y94); (case' y94 => assumption); (case' x94 => wtm_at "hp"))
  | ((with_reducible refine' Ne.symm (ne_of_none ?x95 ?y95)); (case' y95 => assumption); (case' x95 => wtm_at "hp")))
local macro_rules | `(tactic| wtm_at "nin") => `(tactic| first
  | assumption
  | exact List.not_mem_nil
  | ((with_reducible refine' List.not_mem_cons_of_ne_of_not_mem ?h98 ?t98); (case' h98 => wtm_at "ne"); (case' t98 => wtm_at "nin")))
local macro_rules | `(tactic| wtm_at "g1") => `(tactic| first
  | ((with_reducible refine' g_var ?h11 ?k11); (case' h11 => exact rfl))
  | with_reducible refine' g_c ?_
  | with_reducible refine' g_op ?_
  | with_reducible refine' g_I0 ?_
  | ((with_reducible refine' g_I ?c12 ?k12); (case' c12 => wtm_at "ar"))
  | with_reducible refine' g_cons ?_
  | with_reducible refine' g_nil ?_
  | with_reducible refine' g_seq ?_
  | with_reducible refine' g_asg ?_
  | with_reducible refine' g_name ?_
  | with_reducible refine' g_ret ?_
  | with_reducible refine' g_if ?_
  | with_reducible refine' g_test ?_
  | with_reducible refine' g_tB ?_
  | with_reducible refine' g_bl ?_
  | ((with_reducible refine' g_eq ?h13 ?k13); (case' h13 => exact rfl))
  | ((with_reducible refine' g_ne ?h14 ?k14); (case' h14 => exact rfl))
  | with_reducible refine' g_CB ?_
  | with_reducible refine' g_call ?_
  | with_reducible refine' g_drop ?_
  | with_reducible refine' g_next ?_
  | with_reducible refine' g_not ?_
  | with_reducible refine' g_and ?_
  | with_reducible refine' g_or ?_
  | with_reducible refine' g_un ?_
  | with_reducible refine' g_U ?_
  | with_reducible refine' g_tup ?_
  | with_reducible refine' g_lst ?_
  | ((with_reducible refine' g_kNew ?h15 ?k15); (case' h15 => wtm_at "ln"); (case' k15 => intro _ _ _ _ _))
  | ((with_reducible refine' g_ixL ?h16 ?a16 ?k16); (case' h16 => wtm_at "sl"); (case' a16 => wtm_at "at"))
  | ((with_reducible refine' g_ixT ?h17 ?a17 ?k17); (case' h17 => wtm_at "st"); (case' a17 => wtm_at "at"))
  | with_reducible refine' g_slice ?_
  | with_reducible refine' g_part ?_
  | with_reducible refine' g_kPart ?_
  | with_reducible refine' g_noPart ?_
  | ((with_reducible refine' g_slL ?h18 ?k18); (case' h18 => wtm_at "sl"); (case' k18 => intro _ _ _ _ _))
  | ((with_reducible refine' g_cat ?h119 ?h219 ?l19 ?k19); (case' h119 => wtm_at "hp"); (case' h219 => wtm_at "hp"); (case' l19 => wtm_at "ln"); (case' k19 => intro _ _ _ _ _))
  | ((with_reducible refine' g_rep ?h120 ?h220 ?h320 ?l20 ?k20); (case' h120 => wtm_at "hp"); (case' h220 => wtm_at "ln"); (case' h320 => wtm_at "ln"); (case' l20 => wtm_at "ln"); (case' k20 => intro _ _ _ _ _))
  | ((with_reducible refine' g_append ?h21 ?l21 ?k21); (case' h21 => wtm_at "hp"); (case' l21 => wtm_at "ln"); (case' k21 => intro _ _ _))
  | ((with_reducible refine' g_kBM ?h22 ?k22); (case' h22 => wtm_at "sl"))
  | ((with_reducible refine' g_kBM0 ?h23 ?k23); (case' h23 => wtm_at "sl"))
  | ((with_reducible refine' g_kL ?h24 ?k24); (case' h24 => wtm_at "sl"))
  | ((with_reducible refine' g_kR1 ?h125 ?h225 ?k25); (case' h125 => wtm_at "ln"); (case' h225 => wtm_at "ln"))
  | ((with_reducible refine' g_kR2 ?h126 ?h226 ?h326 ?h426 ?k26); (case' h126 => wtm_at "ln"); (case' h226 => wtm_at "ln"); (case' h326 => wtm_at "ln"); (case' h426 => wtm_at "ln"))
  | ((with_reducible refine' g_lenL ?h27 ?k27); (case' h27 => wtm_at "sl"))
  | ((with_reducible refine' g_lenT ?h28 ?k28); (case' h28 => wtm_at "st"))
  | ((with_reducible refine' g_listL ?h29 ?k29); (case' h29 => wtm_at "sl"); (case' k29 => intro _ _ _ _ _))
  | ((with_reducible refine' g_tupleL ?h30 ?k30); (case' h30 => wtm_at "sl"); (case' k30 => intro _ _ _ _ _))
  | with_reducible refine' g_max ?_
  | with_reducible refine' g_min ?_
  | with_reducible refine' g_intB ?_
  | with_reducible refine' g_fld ?_
  | with_reducible refine' g_put ?_
  | with_reducible refine' g_dget ?_
  | with_reducible refine' g_isN ?_
  | with_reducible refine' g_notN ?_
  | with_reducible refine' g_ifE ?_
  | with_reducible refine' g_andV ?_
  | with_reducible refine' g_orV ?_
  | with_reducible refine' g_notV ?_
  | with_reducible refine' g_kIf ?_
  | with_reducible refine' g_chain ?_
  | with_reducible refine' g_kCh ?_
  | with_reducible refine' g_sub ?_
  | ((with_reducible refine' g_setI ?h92 ?e92 ?j92 ?k92); (case' h92 => wtm_at "hp"); (case' e92 => first | exact rfl | assumption); (case' j92 => wtm_at "ln"); (case' k92 => intro _ _ _))
  | ((with_reducible refine' g_setL ?h89 ?i89 ?k89); (case' h89 => wtm_at "hp"); (case' i89 => exact ixE rfl (by wtm_at "ln")); (case' k89 => intro _ _ _))
  | ((with_reducible refine' g_gtup ?h93 ?e93 ?k93); (case' h93 => wtm_at "st"); (case' e93 => exact rfl))
  | with_reducible refine' g_gcons ?_
  | with_reducible refine' g_gnil ?_
  | with_reducible refine' g_par ?_
  | with_reducible refine' g_kPar ?_
  | with_reducible refine' g_meth ?_
  | with_reducible refine' g_bm ?_
  | with_reducible refine' g_bm0 ?_
  | with_reducible refine' g_raise ?_
  | with_reducible refine' g_for ?_
  | with_reducible refine' g_iR1 ?_
  | with_reducible refine' g_iR2 ?_
  | with_reducible refine' g_iL ?_
  | with_reducible refine' g_lc ?_
  | with_reducible refine' g_retN ?_
  | with_reducible refine' g_no (b := false) rfl ?_
  | with_reducible refine' g_yes (b := true) rfl ?_)
local macro_rules | `(tactic| wtm_at "go") => `(tactic| repeat (wtm_at "g1"))
local macro_rules | `(tactic| wtm_at "gs") => `(tactic| repeat ((fail_if_success (with_reducible refine' g_ifE ?_)); wtm_at "g1"))
local macro_rules | `(tactic| wtm_at "gi") => `(tactic| repeat ((fail_if_success (with_reducible refine' g_if ?_)); wtm_at "g1"))
local macro_rules | `(tactic| wtm_at "gr") => `(tactic| repeat ((fail_if_success (with_reducible refine' g_ret ?_)); wtm_at "g1"))
local macro_rules | `(tactic| wtm_at "gq") => `(tactic| repeat ((fail_if_success (with_reducible refine' g_asg ?_)); wtm_at "g1"))
/-! ### a deed done, a deed drawn -/
def doesR (μ : Mt) : Dd → Option Rf
  | .up => if μ.up = true then some .up else none
  | d => refR μ d
def doesM (μ : Mt) (d : Dd) (cut : Option Nat) : PyData × Mt :=
  match d with
  | .up => upM μ cut
  | .stamp a => stampM μ a cut
  | .back a => backM μ a cut
  | .top z => topM μ z cut
theorem StAt.new {K : PySem.W.Frag} {H0 H : Hp} {r l : Addr} (s : StAt K H0 H r) (h : H l = none) : l ≠ r := by
  rintro rfl
  obtain ⟨_, _, _, _, _, e, _⟩ := s.ex
  rw [h] at e
  cases e
/-- a deed as it is drawn for a meter -/
def DdGood (μ : Mt) (d : Dd) : Prop := d = .up ∨ ∃ a, (1 ≤ a ∧ a ≤ 99999) ∧ (d = .stamp a ∨ d = .back a ∨ d = .top (mkCd μ.key μ.num (bk μ 5 + 1) a 1))
section
variable {P : Program} {w : World} {K : PySem.W.Frag} {mg : Str → Option Value} {base : Heap}
local macro_rules | `(tactic| wtm_at "g1") => `(tactic| first
  | ((with_reducible refine' g_fOwn (by assumption) ?h201 ?k201); (case' h201 => wtm_at "hp"))
  | ((with_reducible refine' g_fKey (by assumption) ?h202 ?k202); (case' h202 => wtm_at "hp"))
  | ((with_reducible refine' g_fMem (by assumption) ?h203 ?k203); (case' h203 => wtm_at "hp"))
  | ((with_reducible refine' g_fPri (by assumption) ?h204 ?k204); (case' h204 => wtm_at "hp"))
  | ((with_reducible refine' g_fAwa (by assumption) ?h205 ?k205); (case' h205 => wtm_at "hp"))
  | ((with_reducible refine' g_pAwa (by assumption) ?h206 ?k206); (case' h206 => wtm_at "hp"); (case' k206 => intro _ _ _))
  | ((with_reducible refine' g_kMeth ?h207 ?l207 ?k207); (case' h207 => wtm_at "hp"); (case' l207 => exact rfl)))

local macro_rules | `(tactic| wtm_at "g1") => `(tactic| first
  | ((with_reducible refine' g_dNum ?h311 ?k311); (case' h311 => wtm_at "hp"))
  | ((with_reducible refine' g_dKey ?h312 ?k312); (case' h312 => wtm_at "hp"))
  | ((with_reducible refine' g_dCe ?h313 ?k313); (case' h313 => wtm_at "hp"))
  | ((with_reducible refine' g_dSt ?h314 ?k314); (case' h314 => wtm_at "hp"))
  | ((with_reducible refine' g_dUp ?h315 ?k315); (case' h315 => wtm_at "hp"))
  | ((with_reducible refine' g_kDGetS ?h301 ?l301 ?k301); (case' h301 => wtm_at "hp"); (case' l301 => exact rfl))
  | (with_reducible refine' g_dput ?_)
  | (with_reducible refine' g_iK ?_)
  | ((with_reducible refine' g_disp ?k305); (case' k305 => intro _ _ _ _ _))
  | (with_reducible refine' g_pcons ?_)
  | (with_reducible refine' g_pnil ?_)
  | ((with_reducible refine' g_kDisp ?h306 ?e306 ?f306 ?l306 ?k306); (case' h306 => wtm_at "hp"); (case' e306 => exact rfl); (case' f306 => exact rfl); (case' l306 => wtm_at "ln"); (case' k306 => intro _ _ _))
  | ((with_reducible refine' g_pUp ?h302 ?k302); (case' h302 => wtm_at "hp"); (case' k302 => intro _ _ _))
  | ((with_reducible refine' g_pSt ?h303 ?k303); (case' h303 => wtm_at "hp"); (case' k303 => intro _ _ _))
  | ((with_reducible refine' g_pCe ?h304 ?k304); (case' h304 => wtm_at "hp"); (case' k304 => intro _ _ _)))

def spDoes (T : Tx K mg) : Sp := fun vs H Q E => ∃ (p pm pp t : Addr) (μ : Mt) (d : Dd) (cut : Option Nat), vs = [.ref p, .ref t, cutO cut] ∧ MetAt K T.C_Meter H p pm pp μ ∧ Any μ.cells ∧ Sm μ ∧ μ.stamps.length < 1000 ∧ DdAt H t d ∧
  (∀ r, doesR μ d = some r → ∀ H', Mx [] H H' → E (.ref (r.at T)) none H') ∧ (doesR μ d = none → ∀ v H', Mx [p, pm, pp] H H' → MetAt K T.C_Meter H' p pm pp (doesM μ d cut).2 → Dp K H' v (doesM μ d cut).1 → Q v H')
theorem c__law_does (T : Tx K mg) : Cl P w K mg base 6 "_law_does" (spDoes T) [] := by
  refine T.f__law_does.cl sc__law_does (fun vs H Q E h => ?_) (fun cdv A outer s H vs Q E hr h => ?_)
  · obtain ⟨_, _, _, _, _, _, _, rfl, _⟩ := h
    rfl
  · obtain ⟨p, pm, pp, t, μ, d, cut, rfl, M, hA, hS, hst, hd, q1, q2⟩ := h
    obtain ⟨dx, ob⟩ := M.ob
    refine ⟨_, (pss_cons (ps_if (pt_cmpR op_eq (pe_ix (ixT K) (pv 1) pe_int (fun _ _ => rfl)) pe_str (by first | exact nomark _ | rfl)) (pss_one (ps_ret (pe_ifExp (pt_cmp (pc_notN (pv 2)) rfl) (q_meth (mt_Meter_come_up T) hr (by decide) (pv 0) (passes_call (takes_of rfl rfl rfl rfl) (fun _ _ _ _ h => h)) (pa_cons (pv 2) pa_nil)) (q_meth0 (mt_Meter_come_up_d T) hr (by decide) (pv 0) (passes_call (takes_of rfl rfl rfl rfl) (fun _ _ _ _ h => h)))))) pss_nil)
      (pss_cons (ps_if (pt_cmpR op_eq (pe_ix (ixT K) (pv 1) pe_int (fun _ _ => rfl)) pe_str (by first | exact nomark _ | rfl)) (pss_one (ps_ret (pe_ifExp (pt_cmp (pc_notN (pv 2)) rfl) (q_meth (mt_Meter_stamp T) hr (by decide) (pv 0) (passes_call (takes_of rfl rfl rfl rfl) (fun _ _ _ _ h => h)) (pa_cons (pe_ix (ixT K) (pv 1) pe_int (fun _ _ => rfl)) (pa_cons (pv 2) pa_nil))) (q_meth (mt_Meter_stamp_d T) hr (by decide) (pv 0) (passes_call (takes_of rfl rfl rfl rfl) (fun _ _ _ _ h => h)) (pa_cons (pe_ix (ixT K) (pv 1) pe_int (fun _ _ => rfl)) pa_nil))))) pss_nil)
      (pss_cons (ps_if (pt_cmpR op_eq (pe_ix (ixT K) (pv 1) pe_int (fun _ _ => rfl)) pe_str (by first | exact nomark _ | rfl)) (pss_one (ps_ret (q_meth (mt_Meter_top_up T) hr (by decide) (pv 0) (passes_call (takes_of rfl rfl rfl rfl) (fun _ _ _ _ h => h)) (pa_cons (pe_ix (ixT K) (pv 1) pe_int (fun _ _ => rfl)) (pa_cons (pv 2) pa_nil))))) pss_nil)
      (pss_one (ps_ret (q_meth (mt_Meter_give_back T) hr (by decide) (pv 0) (passes_call (takes_of rfl rfl rfl rfl) (fun _ _ _ _ h => h)) (pa_cons (pe_ix (ixT K) (pv 1) pe_int (fun _ _ => rfl)) (pa_cons (pv 2) pa_nil)))))))), ?_⟩
    cases d with
    | up =>
      have hd1 : H t = some (.tup [.str "come_up"]) := hd
      wtm_at "go"
      refine g_yes (by decide +kernel) ?_
      have fin : spComeUp T [.ref p, cutO cut] H Q E := ⟨p, pm, pp, μ, cut, rfl, M, hA, hst, fun eu => q1 .up (by simp [doesR, eu]) H Mx.refl, fun eu => q2 (by simp [doesR, eu])⟩
      wtm_at "go"
      refine g_ite (fun e => ?_) (fun e => ?_)
      · wtm_at "go"
        exact fin
      · have ec : cut = none := by
          cases cut with
          | none => rfl
          | some k => simp [cutO] at e
        subst ec
        wtm_at "go"
        exact fin
    | stamp a =>
      have hd1 : H t = some (.tup [.str "stamp", .int a]) := hd
      wtm_at "go"
      refine g_no (by decide +kernel) ?_
      wtm_at "go"
      refine g_yes (by decide +kernel) ?_
      have fin : spStamp T [.ref p, .int a, cutO cut] H Q E := ⟨p, pm, pp, μ, a, cut, rfl, M, hA, hst, q1, q2⟩
      wtm_at "go"
      refine g_ite (fun e => ?_) (fun e => ?_)
      · wtm_at "go"
        exact fin
      · have ec : cut = none := by
          cases cut with
          | none => rfl
          | some k => simp [cutO] at e
        subst ec
        wtm_at "go"
        exact fin
    | top z =>
      obtain ⟨c, hd1, hd2⟩ := hd
      wtm_at "go"
      refine g_no (by decide +kernel) ?_
      wtm_at "go"
      refine g_no (by decide +kernel) ?_
      wtm_at "go"
      refine g_yes (by decide +kernel) ?_
      wtm_at "go"
      exact ⟨p, pm, pp, c, μ, z, cut, rfl, M, hA, hS, hd2, q1, q2⟩
    | back a =>
      have hd1 : H t = some (.tup [.str "give_back", .int a]) := hd
      wtm_at "go"
      refine g_no (by decide +kernel) ?_
      wtm_at "go"
      refine g_no (by decide +kernel) ?_
      wtm_at "go"
      refine g_no (by decide +kernel) ?_
      wtm_at "go"
      exact ⟨p, pm, pp, μ, a, cut, rfl, M, hA, hS, q1, q2⟩
/-- a cut, mostly none -/
def spCut : Sp := fun vs H Q _ => ∃ (H0 : Hp) (r : Addr), vs = [.ref r] ∧ StAt K H0 H r ∧ ∀ (c : Option Nat) H', (∀ k, c = some k → k < 14) → Mx [r] H H' → StAt K H0 H' r → Q (cutO c) H'
theorem c__law_cut (T : Tx K mg) : Cl P w K mg base 2 "_law_cut" (spCut (K := K)) [] := by
  refine T.f__law_cut.cl sc__law_cut (fun vs H Q E h => ?_) (fun cdv A outer s H vs Q E hr h => ?_)
  · obtain ⟨_, _, rfl, _⟩ := h
    rfl
  · obtain ⟨H0, r, rfl, S, q⟩ := h
    refine ⟨_, (pss_one (ps_ret (pe_ix (ixL K) (pe_lst (pa_cons pe_non (pa_cons pe_non (pa_cons pe_non (pa_cons (q_call (c__law_drawn T) hr (by decide) rfl (passes_call (takes_of rfl rfl rfl rfl) (fun _ _ _ _ h => h)) (pa_cons (pv 0) (pa_cons pe_int pa_nil))) pa_nil))))) (q_call (c__law_drawn T) hr (by decide) rfl (passes_call (takes_of rfl rfl rfl rfl) (fun _ _ _ _ h => h)) (pa_cons (pv 0) (pa_cons pe_int pa_nil))) (fun _ _ => rfl)))), ?_⟩
    wtm_at "go"
    refine ⟨H0, r, 14, rfl, S, by omega, by omega, fun x H1 x0 x1 m1 S1 => ?_⟩
    wtm_at "go"
    rename_i l H2 n2 m2 e2
    refine ⟨H0, r, 4, rfl, S1.mx0 m2, by omega, by omega, fun y H3 y0 y1 m3 S3 => ?_⟩
    have ne : l ≠ r := by
      obtain ⟨_, _, _, _, _, h, _⟩ := S1.ex
      exact (ne_of_none h n2).symm
    have e3 : H3 l = some (.lst [.non, .non, .non, .int x]) := m3 _ _ e2 (by simpa using ne)
    have mm : Mx [r] H H3 := (m1.trans m2.of0).trans m3
    have hy : y = 0 ∨ y = 1 ∨ y = 2 ∨ y = 3 := by omega
    rcases hy with rfl | rfl | rfl | rfl
    · wtm_at "go"
      exact q none _ (fun _ z => nomatch z) mm S3
    · wtm_at "go"
      exact q none _ (fun _ z => nomatch z) mm S3
    · wtm_at "go"
      exact q none _ (fun _ z => nomatch z) mm S3
    · wtm_at "go"
      have := q (some x.toNat) _ (fun k z => by cases z; omega) mm S3
      have ex : ((x.toNat : Nat) : Int) = x := by omega
      simp only [cutO, ex] at this
      exact this
/-- a deed that may be done, mostly -/
def spDeed : Sp := fun vs H Q _ => ∃ (H0 : Hp) (r q qc qs : Addr) (μ : Mt), vs = [.ref r, .ref q] ∧ StAt K H0 H r ∧ LmAt K H q qc qs μ ∧ Any μ.cells ∧ Sm μ ∧ r ≠ q ∧ r ≠ qc ∧ r ≠ qs ∧
  ∀ t d H', DdGood μ d → Mx [r] H H' → StAt K H0 H' r → H t = none → DdAt H' t d → Q (.ref t) H'
theorem c__law_deed (T : Tx K mg) : Cl P w K mg base 3 "_law_deed" (spDeed (K := K)) [] := by
  refine T.f__law_deed.cl sc__law_deed (fun vs H Q E h => ?_) (fun cdv A outer s H vs Q E hr h => ?_)
  · obtain ⟨_, _, _, _, _, _, rfl, _⟩ := h
    rfl
  · obtain ⟨H0, r, q, qc, qs, μ, rfl, S, ⟨ob, ce, st, ne⟩, hA, ⟨hs1, hs2, hs3⟩, r1, r2, r3, k⟩ := h
    have hl := hA.1
    have hb := bank_len hl
    have hu := hu_of hr
    have h3 := hs3 3
    have h5 := hs3 5
    refine ⟨_, (pss_cons (ps_if (PW.pt (pw_and (pt_not (pt_val (pe_dget hu (pv 1) pe_str (fun _ _ => rfl)))) (pw_and1 (pt_cmpR op_gt (q_call (c__law_drawn T) hr (by decide) rfl (passes_call (takes_of rfl rfl rfl rfl) (fun _ _ _ _ h => h)) (pa_cons (pv 0) (pa_cons pe_int pa_nil))) pe_int (by first | exact nomark _ | rfl))))) (pss_one (ps_ret (pe_tup (pa_cons pe_str pa_nil)))) pss_nil)
      (pss_cons (ps_set (i := 2) sc__law_deed.nd rfl (Or.inl rfl) (q_call (c__law_bank T) hr (by decide) rfl (passes_call (takes_of rfl rfl rfl rfl) (fun _ _ _ _ h => h)) (pa_cons (pe_dget hu (pv 1) pe_str (fun _ _ => rfl)) pa_nil)))
      (pss_cons (ps_set (i := 3) sc__law_deed.nd rfl (Or.inl rfl) (q_call (c__law_drawn T) hr (by decide) rfl (passes_call (takes_of rfl rfl rfl rfl) (fun _ _ _ _ h => h)) (pa_cons (pv 0) (pa_cons pe_int pa_nil))))
      (pss_cons (ps_if (PW.pt (pw_or (pt_cmpR op_lt (pv 3) pe_int (by first | exact nomark _ | rfl)) (pw_or1 (PW.pt (pw_and (pt_cmpR op_eq (pe_ix (ixL K) (pv 2) pe_int (fun _ _ => rfl)) pe_int (by first | exact nomark _ | rfl)) (pw_and1 (pt_cmpR op_lt (pv 3) pe_int (by first | exact nomark _ | rfl)))))))) (pss_one (ps_ret (pe_tup (pa_cons pe_str (pa_cons (q_call (c__law_code T) hr (by decide) rfl (passes_call (takes_of rfl rfl rfl rfl) (fun _ _ _ _ h => h)) (pa_cons (pe_dget hu (pv 1) pe_str (fun _ _ => rfl)) (pa_cons (pe_dget hu (pv 1) pe_str (fun _ _ => rfl)) (pa_cons (pe_op op_add (pe_ix (ixL K) (pv 2) pe_int (fun _ _ => rfl)) pe_int) (pa_cons (q_call (c__law_amount T) hr (by decide) rfl (passes_call (takes_of rfl rfl rfl rfl) (fun _ _ _ _ h => h)) (pa_cons (pv 0) pa_nil)) (pa_cons pe_int pa_nil)))))) pa_nil))))) pss_nil)
      (pss_cons (ps_if (pt_cmpR op_lt (pv 3) pe_int (by first | exact nomark _ | rfl)) (pss_cons (ps_set (i := 4) sc__law_deed.nd rfl (Or.inl rfl) (pe_op op_add pe_int (pe_op op_mod (q_call (c__law_drawn T) hr (by decide) rfl (passes_call (takes_of rfl rfl rfl rfl) (fun _ _ _ _ h => h)) (pa_cons (pv 0) (pa_cons (pe_callB (c_max rfl) (by rfl) T.n_max (by decide +kernel) (pa_cons pe_int (pa_cons (pe_ix (ixL K) (pv 2) pe_int (fun _ _ => rfl)) pa_nil))) pa_nil))) (pe_ix (ixL K) (pe_lst (pa_cons pe_int (pa_cons pe_int pa_nil))) (q_call (c__law_drawn T) hr (by decide) rfl (passes_call (takes_of rfl rfl rfl rfl) (fun _ _ _ _ h => h)) (pa_cons (pv 0) (pa_cons pe_int pa_nil))) (fun _ _ => rfl)))))
      (pss_one (ps_ret (pe_tup (pa_cons (pe_ix (ixL K) (pe_lst (pa_cons pe_str (pa_cons pe_str (pa_cons pe_str pa_nil)))) (q_call (c__law_drawn T) hr (by decide) rfl (passes_call (takes_of rfl rfl rfl rfl) (fun _ _ _ _ h => h)) (pa_cons (pv 0) (pa_cons pe_int pa_nil))) (fun _ _ => rfl)) (pa_cons (pv 4) pa_nil)))))) pss_nil)
      (pss_one (ps_ret (pe_ix (ixL K) (pe_lst (pa_cons (pe_tup (pa_cons pe_str pa_nil)) (pa_cons (pe_tup (pa_cons pe_str (pa_cons (q_call (c__law_amount T) hr (by decide) rfl (passes_call (takes_of rfl rfl rfl rfl) (fun _ _ _ _ h => h)) (pa_cons (pv 0) pa_nil)) pa_nil))) (pa_cons (pe_tup (pa_cons pe_str (pa_cons (q_call (c__law_amount T) hr (by decide) rfl (passes_call (takes_of rfl rfl rfl rfl) (fun _ _ _ _ h => h)) (pa_cons (pv 0) pa_nil)) pa_nil))) pa_nil)))) (q_call (c__law_drawn T) hr (by decide) rfl (passes_call (takes_of rfl rfl rfl rfl) (fun _ _ _ _ h => h)) (pa_cons (pv 0) (pa_cons pe_int pa_nil))) (fun _ _ => rfl))))))))), ?_⟩
    refine g_seq ?_
    refine g_cutS (fun N => ∀ H1, Mx [r] H H1 → StAt K H0 H1 r → N (L2.start N__law_deed [.ref r, .ref q]) H1) (fun N hN => ?_) (fun H1 m1 S1 => ?_)
    · wtm_at "go"
      refine g_ite (fun e => ?_) (fun e => ?_)
      · wtm_at "go"
        refine ⟨H0, r, 6, rfl, S, by omega, by omega, fun x H1 x0 x1 m1 S1 => ?_⟩
        wtm_at "go"
        refine g_ite (fun e2 => ?_) (fun e2 => ?_)
        · wtm_at "go"
          rename_i t H2 n2 m2 e3
          exact k t .up H2 (.inl rfl) (m1.trans m2.of0) (S1.mx0 m2) (m1.free n2 (by simpa using S1.new n2)) e3
        · wtm_at "go"
          exact hN _ m1 S1
      · wtm_at "go"
        exact hN _ Mx.refl S
    · have ob1 : H1 q = some (.dK (lmKvs μ qc qs)) := m1 _ _ ob (by simpa using r1.symm)
      have ce1 : H1 qc = some (.lst (μ.cells.map V.int)) := m1 _ _ ce (by simpa using r2.symm)
      wtm_at "go"
      refine ⟨qc, μ.cells, rfl, SqL.of ce1, hA, fun b H2 n2 m2 e2 => ?_⟩
      have S2 := S1.mx0 m2
      have nb : b ≠ r := S1.new n2
      have ob2 : H2 q = some (.dK (lmKvs μ qc qs)) := m2 _ _ ob1 (by simp)
      have m02 : Mx [r] H H2 := m1.trans m2.of0
      wtm_at "go"
      refine ⟨H0, r, 9, rfl, S2, by omega, by omega, fun x H3 x0 x1 m3 S3 => ?_⟩
      have e3 : H3 b = some (.lst ((bank μ.cells).map V.int)) := m3 _ _ e2 (by simpa using nb)
      have ob3 : H3 q = some (.dK (lmKvs μ qc qs)) := m3 _ _ ob2 (by simpa using r1.symm)
      have m03 : Mx [r] H H3 := m02.trans m3
      clear m1 m2 m3 S1 S2 ob ob1 ob2 e2 ce1 ce
      wtm_at "gi"
      refine g_if ?_
      refine g_cutT (fun QB => ∀ b, QB b H3) (fun QB hQ => ?_) (fun c => ?_)
      · wtm_at "go"
        refine g_ite (fun e => ?_) (fun e => ?_)
        · exact hQ true
        · wtm_at "go"
          refine g_ite (fun e => ?_) (fun e => ?_)
          · wtm_at "go"
            exact hQ _
          · exact hQ false
      · refine g_ite (fun e => ?_) (fun e => ?_)
        · wtm_at "go"
          refine ⟨H0, r, rfl, S3, fun a H4 a0 a1 m4 S4 => ?_⟩
          have e4 : H4 b = some (.lst ((bank μ.cells).map V.int)) := m4 _ _ e3 (by simpa using nb)
          have ob4 : H4 q = some (.dK (lmKvs μ qc qs)) := m4 _ _ ob3 (by simpa using r1.symm)
          wtm_at "go"
          refine ⟨_, _, _, _, _, rfl, Nat.lt_of_lt_of_le hs2 (by decide), Nat.lt_of_lt_of_le hs1 (by decide), ?_, ?_, ?_, fun c H5 n5 m5 e5 => ?_⟩
          · show Bd (bk μ 5 + 1)
            unfold Bd
            omega
          · unfold Bd
            omega
          · unfold Bd
            decide
          have S5 := S4.mx0 m5
          wtm_at "go"
          rename_i t H6 n6 m6 e6
          refine k t (.top (mkCd μ.key μ.num (bk μ 5 + 1) a 1)) H6 (.inr ⟨a, ⟨a0, a1⟩, .inr (.inr rfl)⟩) (((m03.trans m4).trans m5.of0).trans m6.of0) (S5.mx0 m6) ?_ ⟨c, e6, m6 _ _ e5 (by simp)⟩
          exact m03.free (m4.free (m5.free n6 (by simp)) (by simpa using S5.new n6)) (by simpa using S5.new n6)
        · wtm_at "gi"
          refine g_if ?_
          refine g_cutT (fun QB => ∀ b, QB b H3) (fun QB hQ => ?_) (fun c => ?_)
          · wtm_at "go"
            exact hQ _
          · refine g_ite (fun e => ?_) (fun e => ?_)
            · wtm_at "go"
              have hmx : 0 < (if cl (bank μ.cells) 3 > 1 then cl (bank μ.cells) 3 else 1) ∧ (if cl (bank μ.cells) 3 > 1 then cl (bank μ.cells) 3 else 1) < 2 ^ 300 := by
                have : (cl (bank μ.cells) 3).natAbs < 2 ^ 200 := h3
                split <;> omega
              refine ⟨H0, r, _, rfl, S3, hmx.1, hmx.2, fun y H4 y0 y1 m4 S4 => ?_⟩
              wtm_at "go"
              rename_i l5 H5 n5 m5 e5
              have S5 := S4.mx0 m5
              refine ⟨H0, r, 2, rfl, S5, by omega, by omega, fun z H6 z0 z1 m6 S6 => ?_⟩
              have e6 : H6 l5 = some (.lst [.int 5, .int 99999]) := m6 _ _ e5 (by simpa using S4.new n5)
              have m06 : Mx [r] H H6 := ((m03.trans m4).trans m5.of0).trans m6
              have key : ∀ a : Int, 1 ≤ a → a ≤ 99999 → tRet (tTup (tCons (tOp (rIxL K) (tLst (tCons (tC (V.str "stamp")) (tCons (tC (V.str "stamp")) (tCons (tC (V.str "give_back")) tNil)))) (tCall (spDrawn (K := K)) [] E (tCons (tVar 0) (tCons (tC (V.int 3)) tNil)))) (tCons (tVar 4) tNil))) { nx := fun x H' => Q V.non H', rt := Q } [some (.ref r), some (.ref q), some (.ref b), some (.int x), some (.int a)] H6 := fun a a0 a1 => by
                wtm_at "go"
                rename_i l7 H7 n7 m7 e7
                have S7 := S6.mx0 m7
                refine ⟨H0, r, 3, rfl, S7, by omega, by omega, fun u H8 u0 u1 m8 S8 => ?_⟩
                have e8 : H8 l7 = some (.lst [.str "stamp", .str "stamp", .str "give_back"]) := m8 _ _ e7 (by simpa using S6.new n7)
                have m08 : Mx [r] H H8 := (m06.trans m7.of0).trans m8
                have hu : u = 0 ∨ u = 1 ∨ u = 2 := by omega
                rcases hu with rfl | rfl | rfl
                · wtm_at "go"
                  rename_i t H9 n9 m9 e9
                  exact k t (.stamp a) H9 (.inr ⟨a, ⟨a0, a1⟩, .inl rfl⟩) (m08.trans m9.of0) (S8.mx0 m9) (m08.free n9 (by simpa using S8.new n9)) e9
                · wtm_at "go"
                  rename_i t H9 n9 m9 e9
                  exact k t (.stamp a) H9 (.inr ⟨a, ⟨a0, a1⟩, .inl rfl⟩) (m08.trans m9.of0) (S8.mx0 m9) (m08.free n9 (by simpa using S8.new n9)) e9
                · wtm_at "go"
                  rename_i t H9 n9 m9 e9
                  exact k t (.back a) H9 (.inr ⟨a, ⟨a0, a1⟩, .inr (.inl rfl)⟩) (m08.trans m9.of0) (S8.mx0 m9) (m08.free n9 (by simpa using S8.new n9)) e9
              have hz : z = 0 ∨ z = 1 := by omega
              rcases hz with rfl | rfl
              · wtm_at "gr"
                refine key _ ?_ ?_
                · omega
                · omega
              · wtm_at "gr"
                refine key _ ?_ ?_
                · omega
                · omega
            · wtm_at "go"
              rename_i t1 H4 n4 m4 e4
              have S4 := S3.mx0 m4
              refine ⟨H0, r, rfl, S4, fun a H5 a0 a1 m5 S5 => ?_⟩
              wtm_at "go"
              rename_i t2 H6 n6 m6 e6
              have S6 := S5.mx0 m6
              refine ⟨H0, r, rfl, S6, fun a' H7 a0' a1' m7 S7 => ?_⟩
              wtm_at "go"
              rename_i t3 H8 n8 m8 e8 l H9 n9 m9 e9
              have S8 := S7.mx0 m8
              have S9 := S8.mx0 m9
              refine ⟨H0, r, 3, rfl, S9, by omega, by omega, fun u H10 u0 u1 m10 S10 => ?_⟩
              have m07 : Mx [r] H H7 := (((m03.trans m4.of0).trans m5).trans m6.of0).trans m7
              have m010 : Mx [r] H H10 := ((m07.trans m8.of0).trans m9.of0).trans m10
              have r4 : t1 ≠ r := S3.new n4
              have r6 : t2 ≠ r := S5.new n6
              have r8 : t3 ≠ r := S7.new n8
              have r9 : l ≠ r := S8.new n9
              have f4 : H t1 = none := m03.free n4 (by simpa using r4)
              have f6 : H t2 = none := m03.free (m4.free (m5.free n6 (by simpa using r6)) (by simp)) (by simpa using r6)
              have f8 : H t3 = none := m07.free n8 (by simpa using r8)
              have e10 : H10 l = some (.lst [.ref t1, .ref t2, .ref t3]) := m10 _ _ e9 (by simpa using r9)
              have d1 : H10 t1 = some (.tup [.str "come_up"]) := m10 _ _ (m9 _ _ (m8 _ _ (m7 _ _ (m6 _ _ (m5 _ _ e4 (by simpa using r4)) (by simp)) (by simpa using r4)) (by simp)) (by simp)) (by simpa using r4)
              have d2 : H10 t2 = some (.tup [.str "stamp", .int a]) := m10 _ _ (m9 _ _ (m8 _ _ (m7 _ _ e6 (by simpa using r6)) (by simp)) (by simp)) (by simpa using r6)
              have d3 : H10 t3 = some (.tup [.str "give_back", .int a']) := m10 _ _ (m9 _ _ e8 (by simp)) (by simpa using r8)
              clear m4 m5 m6 m7 m8 m9 m10 e4 e6 e8 e9
              have hu : u = 0 ∨ u = 1 ∨ u = 2 := by omega
              rcases hu with rfl | rfl | rfl
              · wtm_at "go"
                exact k t1 .up H10 (.inl rfl) m010 S10 f4 d1
              · wtm_at "go"
                exact k t2 (.stamp a) H10 (.inr ⟨a, ⟨a0, a1⟩, .inl rfl⟩) m010 S10 f6 d2
              · wtm_at "go"
                exact k t3 (.back a') H10 (.inr ⟨a', ⟨a0', a1'⟩, .inr (.inl rfl)⟩) m010 S10 f8 d3
end
end Fk
namespace Fk
open PySem PySem.Spec PyProof.Rows L2
local macro_rules | `(tactic| wtm_at "ln") => `(tactic| first
  | omega
  | (simp only [List.length_cons, List.length_nil, List.length_map, List.length_append, List.length_replicate, List.length_take, List.length_drop, List.length_set]; omega)
  | (with_unfolding_all exact (by decide)))
local macro_rules | `(tactic| wtm_at "ar") => `(tactic| first
  | ((with_reducible show CMulW _ _); (refine' mulS ?_ ?_ <;> omega))
  | ((with_reducible show CDivW _ _); (refine' divS ?_ ?_ <;> omega))
  | ((with_reducible show CPow _ _); exact ⟨by decide, by decide, by decide⟩)
  | (show (0 : Int) < _; omega)
  | (with_unfolding_all exact (by decide)))
local macro_rules | `(tactic| wtm_at "at") => `(tactic| first
  | assumption
  | (refine' cl_atE ?e80 ?h80; (case' e80 => first | exact rfl | assumption); (case' h80 => wtm_at "ln"))
  | exact rfl)
local macro_rules | `(tactic| wtm_at "fr") => `(tactic| first
  | assumption
  | ((with_reducible refine' Mx.free0 ?m99 ?h99); (case' h99 => assumption); (case' m99 => wtm_at "mo")))
local macro_rules | `(tactic| wtm_at "hp") => `(tactic| first
  | assumption
  | ((with_reducible refine' Mx.get0 ?m1 ?h1); (case' m1 => assumption); (case' h1 => wtm_at "hp"))
  | ((with_reducible refine' Mx.get ?m2 ?n2 ?h2); (case' m2 => assumption); (case' n2 => wtm_at "nin"); (case' h2 => wtm_at "hp")))
local macro_rules | `(tactic| wtm_at "sl") => `(tactic| first
  | assumption
  | ((with_reducible refine' Mx.sqL0 ?m96 ?h96); (case' h96 => assumption); (case' m96 => wtm_at "mo"))
  | (refine' SqL.of ?h3; (case' h3 => wtm_at "hp"))
  | ((with_reducible refine' Mx.sqL0 ?m4 ?h4); (case' m4 => assumption); (case' h4 => wtm_at "sl"))
  | ((with_reducible refine' Mx.sqL ?m5 ?n5 ?h5); (case' m5 => assumption); (case' n5 => wtm_at "nin"); (case' h5 => wtm_at "sl")))
local macro_rules | `(tactic| wtm_at "st") => `(tactic| first
  | assumption
  | ((with_reducible refine' Mx.sqT0 ?m97 ?h97); (case' h97 => assumption); (case' m97 => wtm_at "mo"))
  | (refine' SqT.of ?h6; (case' h6 => wtm_at "hp"))
  | ((with_reducible refine' Mx.sqT0 ?m7 ?h7); (case' m7 => assumption); (case' h7 => wtm_at "st"))
  | ((with_reducible refine' Mx.sqT ?m8 ?n8 ?h8); (case' m8 => assumption); (case' n8 => wtm_at "nin"); (case' h8 => wtm_at "st")))
local macro_rules | `(tactic| wtm_at "mx") => `(tactic| first
  | assumption
  | exact Mx.refl
  | ((with_reducible refine' Mx.of0 ?h9); (case' h9 => assumption))
  | ((with_reducible refine' Mx.trans ?h10 ?m10); (case' m10 => first | assumption | ((with_reducible refine' Mx.of0 ?q10); (case' q10 => assumption))); (case' h10 => wtm_at "mx")))
local macro_rules | `(tactic| wtm_at "mo") => `(tactic| first
  | wtm_at "mx"
  | ((with_reducible refine' Mx.own ?m90 ?f90 ?k90); (case' k90 => assumption); (case' f90 => wtm_at "fr"); (case' m90 => wtm_at "mo"))
  | ((with_reducible refine' Mx.trans ?h91 ?m91); (case' m91 => first | assumption | ((with_reducible refine' Mx.of0 ?q91); (case' q91 => assumption))); (case' h91 => wtm_at "mo")))
local macro_rules | `(tactic| wtm_at "ne") => `(tactic| first
  | assumption
  | exact Ne.symm (by assumption)
  | ((with_reducible refine' ne_of_none ?x94 ?y94); (case' y94 => assumption); (case' x94 => wtm_at "hp"))
  | ((with_reducible refine' Ne.symm (ne_of_none ?x95 ?y95)); (case' y95 => assumption); (case' x95 => wtm_at "hp")))
local macro_rules | `(tactic| wtm_at "nin") => `(tactic| first
  | assumption
  | exact List.not_mem_nil
  | ((with_reducible refine' List.not_mem_cons_of_ne_of_not_mem ?h98 ?t98); (case' h98 => wtm_at "ne"); (case' t98 => wtm_at "nin")))
local macro_rules | `(tactic| wtm_at "g1") => `(tactic| first
  | ((with_reducible refine' g_var ?h11 ?k11); (case' h11 => exact rfl))
  | with_reducible refine' g_c ?_
  | with_reducible refine' g_op ?_
  | with_reducible refine' g_I0 ?_
  | ((with_reducible refine' g_I ?c12 ?k12); (case' c12 => wtm_at "ar"))
  | with_reducible refine' g_cons ?_
  | with_reducible refine' g_nil ?_
  | with_reducible refine' g_seq ?_
  | with_reducible refine' g_asg ?_
  | with_reducible refine' g_name ?_
  | with_reducible refine' g_ret ?_
  | with_reducible refine' g_if ?_
  | with_reducible refine' g_test ?_
  | with_reducible refine' g_tB ?_
  | with_reducible refine' g_bl ?_
  | ((with_reducible refine' g_eq ?h13 ?k13); (case' h13 => exact rfl))
  | ((with_reducible refine' g_ne ?h14 ?k14); (case' h14 => exact rfl))
  | with_reducible refine' g_CB ?_
  | with_reducible refine' g_call ?_
  | with_reducible refine' g_drop ?_
  | with_reducible refine' g_next ?_
  | with_reducible refine' g_not ?_
  | with_reducible refine' g_and ?_
  | with_reducible refine' g_or ?_
  | with_reducible refine' g_un ?_
  | with_reducible refine' g_U ?_
  | with_reducible refine' g_tup ?_
  | with_reducible refine' g_lst ?_
  | ((with_reducible refine' g_kNew ?h15 ?k15); (case' h15 => wtm_at "ln"); (case' k15 => intro _ _ _ _ _))
  | ((with_reducible refine' g_ixL ?h16 ?a16 ?k16); (case' h16 => wtm_at "sl"); (case' a16 => wtm_at "at"))
  | ((with_reducible refine' g_ixT ?h17 ?a17 ?k17); (case' h17 => wtm_at "st"); (case' a17 => wtm_at "at"))
  | with_reducible refine' g_slice ?_
  | with_reducible refine' g_part ?_
  | with_reducible refine' g_kPart ?_
  | with_reducible refine' g_noPart ?_
  | ((with_reducible refine' g_slL ?h18 ?k18); (case' h18 => wtm_at "sl"); (case' k18 => intro _ _ _ _ _))
  | ((with_reducible refine' g_cat ?h119 ?h219 ?l19 ?k19); (case' h119 => wtm_at "hp"); (case' h219 => wtm_at "hp"); (case' l19 => wtm_at "ln"); (case' k19 => intro _ _ _ _ _))
  | ((with_reducible refine' g_rep ?h120 ?h220 ?h320 ?l20 ?k20); (case' h120 => wtm_at "hp"); (case' h220 => wtm_at "ln"); (case' h320 => wtm_at "ln"); (case' l20 => wtm_at "ln"); (case' k20 => intro _ _ _ _ _))
  | ((with_reducible refine' g_append ?h21 ?l21 ?k21); (case' h21 => wtm_at "hp"); (case' l21 => wtm_at "ln"); (case' k21 => intro _ _ _))
  | ((with_reducible refine' g_kBM ?h22 ?k22); (case' h22 => wtm_at "sl"))
  | ((with_reducible refine' g_kBM0 ?h23 ?k23); (case' h23 => wtm_at "sl"))
  | ((with_reducible refine' g_kL ?h24 ?k24); (case' h24 => wtm_at "sl"))
  | ((with_reducible refine' g_kR1 ?h125 ?h225 ?k25); (case' h125 => wtm_at "ln"); (case' h225 => wtm_at "ln"))
  | ((with_reducible refine' g_kR2 ?h126 ?h226 ?h326 ?h426 ?k26); (case' h126 => wtm_at "ln"); (case' h226 => wtm_at "ln"); (case' h326 => wtm_at "ln"); (case' h426 => wtm_at "ln"))
  | ((with_reducible refine' g_lenL ?h27 ?k27); (case' h27 => wtm_at "sl"))
  | ((with_reducible refine' g_lenT ?h28 ?k28); (case' h28 => wtm_at "st"))
  | ((with_reducible refine' g_listL ?h29 ?k29); (case' h29 => wtm_at "sl"); (case' k29 => intro _ _ _ _ _))
  | ((with_reducible refine' g_tupleL ?h30 ?k30); (case' h30 => wtm_at "sl"); (case' k30 => intro _ _ _ _ _))
  | with_reducible refine' g_max ?_
  | with_reducible refine' g_min ?_
  | with_reducible refine' g_intB ?_
  | with_reducible refine' g_fld ?_
  | with_reducible refine' g_put ?_
  | with_reducible refine' g_dget ?_
  | with_reducible refine' g_isN ?_
  | with_reducible refine' g_notN ?_
  | with_reducible refine' g_ifE ?_
  | with_reducible refine' g_andV ?_
  | with_reducible refine' g_orV ?_
  | with_reducible refine' g_notV ?_
  | with_reducible refine' g_kIf ?_
  | with_reducible refine' g_chain ?_
  | with_reducible refine' g_kCh ?_
  | with_reducible refine' g_sub ?_
  | ((with_reducible refine' g_setI ?h92 ?e92 ?j92 ?k92); (case' h92 => wtm_at "hp"); (case' e92 => first | exact rfl | assumption); (case' j92 => wtm_at "ln"); (case' k92 => intro _ _ _))
  | ((with_reducible refine' g_setL ?h89 ?i89 ?k89); (case' h89 => wtm_at "hp"); (case' i89 => exact ixE rfl (by wtm_at "ln")); (case' k89 => intro _ _ _))
  | ((with_reducible refine' g_gtup ?h93 ?e93 ?k93); (case' h93 => wtm_at "st"); (case' e93 => exact rfl))
  | with_reducible refine' g_gcons ?_
  | with_reducible refine' g_gnil ?_
  | with_reducible refine' g_par ?_
  | with_reducible refine' g_kPar ?_
  | with_reducible refine' g_meth ?_
  | with_reducible refine' g_bm ?_
  | with_reducible refine' g_bm0 ?_
  | with_reducible refine' g_raise ?_
  | with_reducible refine' g_for ?_
  | with_reducible refine' g_iR1 ?_
  | with_reducible refine' g_iR2 ?_
  | with_reducible refine' g_iL ?_
  | with_reducible refine' g_lc ?_
  | with_reducible refine' g_retN ?_
  | with_reducible refine' g_no (b := false) rfl ?_
  | with_reducible refine' g_yes (b := true) rfl ?_)
local macro_rules | `(tactic| wtm_at "go") => `(tactic| repeat (wtm_at "g1"))
local macro_rules | `(tactic| wtm_at "gs") => `(tactic| repeat ((fail_if_success (with_reducible refine' g_ifE ?_)); wtm_at "g1"))
local macro_rules | `(tactic| wtm_at "gi") => `(tactic| repeat ((fail_if_success (with_reducible refine' g_if ?_)); wtm_at "g1"))
local macro_rules | `(tactic| wtm_at "gr") => `(tactic| repeat ((fail_if_success (with_reducible refine' g_ret ?_)); wtm_at "g1"))
local macro_rules | `(tactic| wtm_at "gq") => `(tactic| repeat ((fail_if_success (with_reducible refine' g_asg ?_)); wtm_at "g1"))
/-! ### whether a meter tells what is here -/
section
variable {P : Program} {w : World} {K : PySem.W.Frag} {mg : Str → Option Value} {base : Heap}
local macro_rules | `(tactic| wtm_at "g1") => `(tactic| first
  | ((with_reducible refine' g_fOwn (by assumption) ?h201 ?k201); (case' h201 => wtm_at "hp"))
  | ((with_reducible refine' g_fKey (by assumption) ?h202 ?k202); (case' h202 => wtm_at "hp"))
  | ((with_reducible refine' g_fMem (by assumption) ?h203 ?k203); (case' h203 => wtm_at "hp"))
  | ((with_reducible refine' g_fPri (by assumption) ?h204 ?k204); (case' h204 => wtm_at "hp"))
  | ((with_reducible refine' g_fAwa (by assumption) ?h205 ?k205); (case' h205 => wtm_at "hp"))
  | ((with_reducible refine' g_pAwa (by assumption) ?h206 ?k206); (case' h206 => wtm_at "hp"); (case' k206 => intro _ _ _))
  | ((with_reducible refine' g_kMeth ?h207 ?l207 ?k207); (case' h207 => wtm_at "hp"); (case' l207 => exact rfl)))

local macro_rules | `(tactic| wtm_at "g1") => `(tactic| first
  | ((with_reducible refine' g_dNum ?h311 ?k311); (case' h311 => wtm_at "hp"))
  | ((with_reducible refine' g_dKey ?h312 ?k312); (case' h312 => wtm_at "hp"))
  | ((with_reducible refine' g_dCe ?h313 ?k313); (case' h313 => wtm_at "hp"))
  | ((with_reducible refine' g_dSt ?h314 ?k314); (case' h314 => wtm_at "hp"))
  | ((with_reducible refine' g_dUp ?h315 ?k315); (case' h315 => wtm_at "hp"))
  | ((with_reducible refine' g_kDGetS ?h301 ?l301 ?k301); (case' h301 => wtm_at "hp"); (case' l301 => exact rfl))
  | (with_reducible refine' g_dput ?_)
  | (with_reducible refine' g_iK ?_)
  | ((with_reducible refine' g_disp ?k305); (case' k305 => intro _ _ _ _ _))
  | (with_reducible refine' g_pcons ?_)
  | (with_reducible refine' g_pnil ?_)
  | ((with_reducible refine' g_kDisp ?h306 ?e306 ?f306 ?l306 ?k306); (case' h306 => wtm_at "hp"); (case' e306 => exact rfl); (case' f306 => exact rfl); (case' l306 => wtm_at "ln"); (case' k306 => intro _ _ _))
  | ((with_reducible refine' g_pUp ?h302 ?k302); (case' h302 => wtm_at "hp"); (case' k302 => intro _ _ _))
  | ((with_reducible refine' g_pSt ?h303 ?k303); (case' h303 => wtm_at "hp"); (case' k303 => intro _ _ _))
  | ((with_reducible refine' g_pCe ?h304 ?k304); (case' h304 => wtm_at "hp"); (case' k304 => intro _ _ _)))

local macro_rules | `(tactic| wtm_at "dp") => `(tactic| first
  | assumption
  | ((with_reducible refine' Dp.mx ?m411 ?h411); (case' h411 => assumption); (case' m411 => wtm_at "mo")))
local macro_rules | `(tactic| wtm_at "kk") => `(tactic| first | exact kk_NoneType_tuple | exact kk_NoneType_list | exact kk_NoneType_str | exact kk_NoneType_bool | exact kk_NoneType_int | exact kk_bool_tuple | exact kk_bool_list | exact kk_bool_str | exact kk_bool_bool | exact kk_bool_int | exact kk_int_tuple | exact kk_int_list | exact kk_int_str | exact kk_int_bool | exact kk_int_int | exact kk_str_tuple | exact kk_str_list | exact kk_str_str | exact kk_str_bool | exact kk_str_int | exact kk_list_tuple | exact kk_list_list | exact kk_list_str | exact kk_list_bool | exact kk_list_int | exact kk_tuple_tuple | exact kk_tuple_list | exact kk_tuple_str | exact kk_tuple_bool | exact kk_tuple_int)
local macro_rules | `(tactic| wtm_at "ty") => `(tactic| first
  | assumption
  | ((with_reducible refine' TyX.mx ?m401 ?h401); (case' h401 => assumption); (case' m401 => wtm_at "mo")))
local macro_rules | `(tactic| wtm_at "g1") => `(tactic| first
  | ((with_reducible refine' g_isi ?t402 ?e402 ?k402); (case' t402 => wtm_at "ty"); (case' e402 => wtm_at "kk"))
  | ((with_reducible refine' g_isiT2 ?h403 ?t403 ?e403 ?f403 ?k403); (case' h403 => wtm_at "hp"); (case' t403 => wtm_at "ty"); (case' e403 => wtm_at "kk"); (case' f403 => wtm_at "kk"))
  | ((with_reducible refine' g_ixQL ?h404 ?a404 ?k404); (case' h404 => wtm_at "sl"); (case' a404 => wtm_at "at"))
  | ((with_reducible refine' g_ixQT ?h405 ?a405 ?k405); (case' h405 => wtm_at "st"); (case' a405 => wtm_at "at")))

/-- what a meter tells of itself -/
def meterD (μ : Mt) : PyData := .list [.list (μ.cells.map PyData.int), .list (μ.stamps.map stD), .bool μ.up, .tuple [.int (bk μ 2), .int (bk μ 3), .int (bk μ 4)], .int μ.num, lastB μ]
theorem okDs_ints : ∀ ns : List Int, okDs (ns.map PyData.int) = true
  | [] => rfl
  | n :: r => by simp [okDs, okD, okDs_ints r]
theorem okDs_sts : ∀ ns : List (Int × Int), okDs (ns.map stD) = true
  | [] => rfl
  | n :: r => by simp [okDs, okD, stD, okDs_sts r]
theorem meterD_ok {μ : Mt} (h1 : μ.cells.length ≤ 40000) (h2 : μ.stamps.length ≤ 40000) : okD (meterD μ) = true := by
  have h3 : okD (lastB μ) = true := by
    unfold lastB
    split <;> rfl
  simp [meterD, okD, okDs, okDs_ints, okDs_sts, h1, h2, h3]
theorem meterD_dep {μ : Mt} : (meterD μ).depth < 8 := by
  have h3 : (lastB μ).depth ≤ 1 := by
    unfold lastB
    split
    · simp [cdD, PyData.depth, PyData.depthAll]
    · decide +kernel
  have h4 := dep_sts μ.stamps
  simp [meterD, PyData.depth, PyData.depthAll, dep_ints]
  omega
theorem cut_25 : ∀ {l : List Int}, l.length = 10 → cutV (l.map V.int) (some 2) (some 5) = [.int (cl l 2), .int (cl l 3), .int (cl l 4)]
  | [a, b, c, d, e, f, g, h, i, j], _ => rfl
def spIs (T : Tx K mg) : Sp := fun vs H Q _ => ∃ (p pm pp q qc qs : Addr) (μ : Mt), vs = [.ref p, .ref q] ∧ MetAt K T.C_Meter H p pm pp μ ∧ LmAt K H q qc qs μ ∧ Any μ.cells ∧ Sm μ ∧ μ.stamps.length ≤ 40000 ∧ ∀ H', Mx [] H H' → Q (.bl true) H'
end
end Fk
namespace Fk
open PySem PySem.Spec PyProof.Rows L2
local macro_rules | `(tactic| wtm_at "ln") => `(tactic| first
  | omega
  | (simp only [List.length_cons, List.length_nil, List.length_map, List.length_append, List.length_replicate, List.length_take, List.length_drop, List.length_set]; omega)
  | (with_unfolding_all exact (by decide)))
local macro_rules | `(tactic| wtm_at "ar") => `(tactic| first
  | ((with_reducible show CMulW _ _); (refine' mulS ?_ ?_ <;> omega))
  | ((with_reducible show CDivW _ _); (refine' divS ?_ ?_ <;> omega))
  | ((with_reducible show CPow _ _); exact ⟨by decide, by decide, by decide⟩)
  | (show (0 : Int) < _; omega)
  | (with_unfolding_all exact (by decide)))
local macro_rules | `(tactic| wtm_at "at") => `(tactic| first
  | assumption
  | (refine' cl_atE ?e80 ?h80; (case' e80 => first | exact rfl | assumption); (case' h80 => wtm_at "ln"))
  | exact rfl)
local macro_rules | `(tactic| wtm_at "fr") => `(tactic| first
  | assumption
  | ((with_reducible refine' Mx.free0 ?m99 ?h99); (case' h99 => assumption); (case' m99 => wtm_at "mo")))
local macro_rules | `(tactic| wtm_at "hp") => `(tactic| first
  | assumption
  | ((with_reducible refine' Mx.get0 ?m1 ?h1); (case' m1 => assumption); (case' h1 => wtm_at "hp"))
  | ((with_reducible refine' Mx.get ?m2 ?n2 ?h2); (case' m2 => assumption); (case' n2 => wtm_at "nin"); (case' h2 => wtm_at "hp")))
local macro_rules | `(tactic| wtm_at "sl") => `(tactic| first
  | assumption
  | ((with_reducible refine' Mx.sqL0 ?m96 ?h96); (case' h96 => assumption); (case' m96 => wtm_at "mo"))
  | (refine' SqL.of ?h3; (case' h3 => wtm_at "hp"))
  | ((with_reducible refine' Mx.sqL0 ?m4 ?h4); (case' m4 => assumption); (case' h4 => wtm_at "sl"))
  | ((with_reducible refine' Mx.sqL ?m5 ?n5 ?h5); (case' m5 => assumption); (case' n5 => wtm_at "nin"); (case' h5 => wtm_at "sl")))
local macro_rules | `(tactic| wtm_at "st") => `(tactic| first
  | assumption
  | ((with_reducible refine' Mx.sqT0 ?m97 ?h97); (case' h97 => assumption); (case' m97 => wtm_at "mo"))
  | (refine' SqT.of ?h6; (case' h6 => wtm_at "hp"))
  | ((with_reducible refine' Mx.sqT0 ?m7 ?h7); (case' m7 => assumption); (case' h7 => wtm_at "st"))
  | ((with_reducible refine' Mx.sqT ?m8 ?n8 ?h8); (case' m8 => assumption); (case' n8 => wtm_at "nin"); (case' h8 => wtm_at "st")))
local macro_rules | `(tactic| wtm_at "mx") => `(tactic| first
  | assumption
  | exact Mx.refl
  | ((with_reducible refine' Mx.of0 ?h9); (case' h9 => assumption))
  | ((with_reducible refine' Mx.trans ?h10 ?m10); (case' m10 => first | assumption | ((with_reducible refine' Mx.of0 ?q10); (case' q10 => assumption))); (case' h10 => wtm_at "mx")))
local macro_rules | `(tactic| wtm_at "mo") => `(tactic| first
  | wtm_at "mx"
  | ((with_reducible refine' Mx.own ?m90 ?f90 ?k90); (case' k90 => assumption); (case' f90 => wtm_at "fr"); (case' m90 => wtm_at "mo"))
  | ((with_reducible refine' Mx.trans ?h91 ?m91); (case' m91 => first | assumption | ((with_reducible refine' Mx.of0 ?q91); (case' q91 => assumption))); (case' h91 => wtm_at "mo")))
local macro_rules | `(tactic| wtm_at "ne") => `(tactic| first
  | assumption
  | exact Ne.symm (by assumption)
  | ((with_reducible refine' ne_of_none ?x94 ?y94); (case' y94 => assumption); (case' x94 => wtm_at "hp"))
  | ((with_reducible refine' Ne.symm (ne_of_none ?x95 ?y95)); (case' y95 => assumption); (case' x95 => wtm_at "hp")))
local macro_rules | `(tactic| wtm_at "nin") => `(tactic| first
  | assumption
  | exact List.not_mem_nil
  | ((with_reducible refine' List.not_mem_cons_of_ne_of_not_mem ?h98 ?t98); (case' h98 => wtm_at "ne"); (case' t98 => wtm_at "nin")))
local macro_rules | `(tactic| wtm_at "g1") => `(tactic| first
  | ((with_reducible refine' g_var ?h11 ?k11); (case' h11 => exact rfl))
  | with_reducible refine' g_c ?_
  | with_reducible refine' g_op ?_
  | with_reducible refine' g_I0 ?_
  | ((with_reducible refine' g_I ?c12 ?k12); (case' c12 => wtm_at "ar"))
  | with_reducible refine' g_cons ?_
  | with_reducible refine' g_nil ?_
  | with_reducible refine' g_seq ?_
  | with_reducible refine' g_asg ?_
  | with_reducible refine' g_name ?_
  | with_reducible refine' g_ret ?_
  | with_reducible refine' g_if ?_
  | with_reducible refine' g_test ?_
  | with_reducible refine' g_tB ?_
  | with_reducible refine' g_bl ?_
  | ((with_reducible refine' g_eq ?h13 ?k13); (case' h13 => exact rfl))
  | ((with_reducible refine' g_ne ?h14 ?k14); (case' h14 => exact rfl))
  | with_reducible refine' g_CB ?_
  | with_reducible refine' g_call ?_
  | with_reducible refine' g_drop ?_
  | with_reducible refine' g_next ?_
  | with_reducible refine' g_not ?_
  | with_reducible refine' g_and ?_
  | with_reducible refine' g_or ?_
  | with_reducible refine' g_un ?_
  | with_reducible refine' g_U ?_
  | with_reducible refine' g_tup ?_
  | with_reducible refine' g_lst ?_
  | ((with_reducible refine' g_kNew ?h15 ?k15); (case' h15 => wtm_at "ln"); (case' k15 => intro _ _ _ _ _))
  | ((with_reducible refine' g_ixL ?h16 ?a16 ?k16); (case' h16 => wtm_at "sl"); (case' a16 => wtm_at "at"))
  | ((with_reducible refine' g_ixT ?h17 ?a17 ?k17); (case' h17 => wtm_at "st"); (case' a17 => wtm_at "at"))
  | with_reducible refine' g_slice ?_
  | with_reducible refine' g_part ?_
  | with_reducible refine' g_kPart ?_
  | with_reducible refine' g_noPart ?_
  | ((with_reducible refine' g_slL ?h18 ?k18); (case' h18 => wtm_at "sl"); (case' k18 => intro _ _ _ _ _))
  | ((with_reducible refine' g_cat ?h119 ?h219 ?l19 ?k19); (case' h119 => wtm_at "hp"); (case' h219 => wtm_at "hp"); (case' l19 => wtm_at "ln"); (case' k19 => intro _ _ _ _ _))
  | ((with_reducible refine' g_rep ?h120 ?h220 ?h320 ?l20 ?k20); (case' h120 => wtm_at "hp"); (case' h220 => wtm_at "ln"); (case' h320 => wtm_at "ln"); (case' l20 => wtm_at "ln"); (case' k20 => intro _ _ _ _ _))
  | ((with_reducible refine' g_append ?h21 ?l21 ?k21); (case' h21 => wtm_at "hp"); (case' l21 => wtm_at "ln"); (case' k21 => intro _ _ _))
  | ((with_reducible refine' g_kBM ?h22 ?k22); (case' h22 => wtm_at "sl"))
  | ((with_reducible refine' g_kBM0 ?h23 ?k23); (case' h23 => wtm_at "sl"))
  | ((with_reducible refine' g_kL ?h24 ?k24); (case' h24 => wtm_at "sl"))
  | ((with_reducible refine' g_kR1 ?h125 ?h225 ?k25); (case' h125 => wtm_at "ln"); (case' h225 => wtm_at "ln"))
  | ((with_reducible refine' g_kR2 ?h126 ?h226 ?h326 ?h426 ?k26); (case' h126 => wtm_at "ln"); (case' h226 => wtm_at "ln"); (case' h326 => wtm_at "ln"); (case' h426 => wtm_at "ln"))
  | ((with_reducible refine' g_lenL ?h27 ?k27); (case' h27 => wtm_at "sl"))
  | ((with_reducible refine' g_lenT ?h28 ?k28); (case' h28 => wtm_at "st"))
  | ((with_reducible refine' g_listL ?h29 ?k29); (case' h29 => wtm_at "sl"); (case' k29 => intro _ _ _ _ _))
  | ((with_reducible refine' g_tupleL ?h30 ?k30); (case' h30 => wtm_at "sl"); (case' k30 => intro _ _ _ _ _))
  | with_reducible refine' g_max ?_
  | with_reducible refine' g_min ?_
  | with_reducible refine' g_intB ?_
  | with_reducible refine' g_fld ?_
  | with_reducible refine' g_put ?_
  | with_reducible refine' g_dget ?_
  | with_reducible refine' g_isN ?_
  | with_reducible refine' g_notN ?_
  | with_reducible refine' g_ifE ?_
  | with_reducible refine' g_andV ?_
  | with_reducible refine' g_orV ?_
  | with_reducible refine' g_notV ?_
  | with_reducible refine' g_kIf ?_
  | with_reducible refine' g_chain ?_
  | with_reducible refine' g_kCh ?_
  | with_reducible refine' g_sub ?_
  | ((with_reducible refine' g_setI ?h92 ?e92 ?j92 ?k92); (case' h92 => wtm_at "hp"); (case' e92 => first | exact rfl | assumption); (case' j92 => wtm_at "ln"); (case' k92 => intro _ _ _))
  | ((with_reducible refine' g_setL ?h89 ?i89 ?k89); (case' h89 => wtm_at "hp"); (case' i89 => exact ixE rfl (by wtm_at "ln")); (case' k89 => intro _ _ _))
  | ((with_reducible refine' g_gtup ?h93 ?e93 ?k93); (case' h93 => wtm_at "st"); (case' e93 => exact rfl))
  | with_reducible refine' g_gcons ?_
  | with_reducible refine' g_gnil ?_
  | with_reducible refine' g_par ?_
  | with_reducible refine' g_kPar ?_
  | with_reducible refine' g_meth ?_
  | with_reducible refine' g_bm ?_
  | with_reducible refine' g_bm0 ?_
  | with_reducible refine' g_raise ?_
  | with_reducible refine' g_for ?_
  | with_reducible refine' g_iR1 ?_
  | with_reducible refine' g_iR2 ?_
  | with_reducible refine' g_iL ?_
  | with_reducible refine' g_lc ?_
  | with_reducible refine' g_retN ?_
  | with_reducible refine' g_no (b := false) rfl ?_
  | with_reducible refine' g_yes (b := true) rfl ?_)
local macro_rules | `(tactic| wtm_at "go") => `(tactic| repeat (wtm_at "g1"))
local macro_rules | `(tactic| wtm_at "gs") => `(tactic| repeat ((fail_if_success (with_reducible refine' g_ifE ?_)); wtm_at "g1"))
local macro_rules | `(tactic| wtm_at "gi") => `(tactic| repeat ((fail_if_success (with_reducible refine' g_if ?_)); wtm_at "g1"))
local macro_rules | `(tactic| wtm_at "gr") => `(tactic| repeat ((fail_if_success (with_reducible refine' g_ret ?_)); wtm_at "g1"))
local macro_rules | `(tactic| wtm_at "gq") => `(tactic| repeat ((fail_if_success (with_reducible refine' g_asg ?_)); wtm_at "g1"))
/-! ### the plain law: what a deed does is what is due -/
def wfB : Nat → Nat
  | 0 => 10 ^ 30
  | n + 1 => wfB n + 100000
theorem wfB_succ (n : Nat) : wfB (n + 1) = wfB n + 100000 := rfl
theorem wfB_eq (n : Nat) : wfB n = 10 ^ 30 + n * 100000 := by
  induction n with
  | zero => rfl
  | succ n ih => rw [wfB_succ, ih]; omega
theorem wfB_mono {n m : Nat} (h : n ≤ m) : wfB n ≤ wfB m := by rw [wfB_eq, wfB_eq]; omega
theorem wfB_lo (n : Nat) : 10 ^ 30 ≤ wfB n := by rw [wfB_eq]; omega
theorem wfB_hi {n : Nat} (h : n ≤ 1000) : wfB n < 2 ^ 200 := by rw [wfB_eq]; omega
structure Wf (n : Nat) (μ : Mt) : Prop where
  any : Any μ.cells
  ow : μ.up = true → owed μ = none
  nn : 1 ≤ μ.num ∧ μ.num ≤ 9999
  kk : 0 ≤ μ.key ∧ μ.key ≤ 999981
  b6 : 0 ≤ bk μ 6
  bd : ∀ i, (bk μ i).natAbs ≤ wfB n
  ln : μ.stamps.length ≤ n
theorem Wf.sm {n : Nat} {μ : Mt} (W : Wf n μ) (h : n ≤ 1000) : Sm μ := by
  refine ⟨?_, ?_, fun i => ?_⟩
  · have := W.nn; omega
  · have := W.kk; omega
  · have := W.bd i; have := wfB_hi h; omega
theorem Wf.mono {n m : Nat} {μ : Mt} (W : Wf n μ) (h : n ≤ m) : Wf m μ := ⟨W.any, W.ow, W.nn, W.kk, W.b6, fun i => Nat.le_trans (W.bd i) (wfB_mono h), by have := W.ln; omega⟩
theorem cl_set_or (b : List Int) (j i : Nat) (v : Int) : cl (b.set j v) i = cl b i ∨ cl (b.set j v) i = v := by
  by_cases h : i = j
  · subst h
    by_cases h2 : i < b.length
    · exact .inr (cl_set_eq h2)
    · rw [List.set_eq_of_length_le (by omega)]
      exact .inl rfl
  · exact .inl (cl_set_ne h)
theorem foldl_or : ∀ (chs : List (Nat × Int)) (b : List Int) (i : Nat), cl (chs.foldl (fun b c => b.set c.1 c.2) b) i = cl b i ∨ ∃ c ∈ chs, cl (chs.foldl (fun b c => b.set c.1 c.2) b) i = c.2
  | [], b, i => .inl rfl
  | c :: r, b, i => by
    rw [List.foldl_cons]
    rcases foldl_or r (b.set c.1 c.2) i with h | ⟨d, hd, h⟩
    · rcases cl_set_or b c.1 i c.2 with e | e
      · exact .inl (h.trans e)
      · exact .inr ⟨c, List.mem_cons_self, h.trans e⟩
    · exact .inr ⟨d, List.mem_cons_of_mem _ hd, h⟩
theorem news_or (cs : List Int) (chs : List (Nat × Int)) (i : Nat) : cl (news cs chs) i = cl (bank cs) i ∨ cl (news cs chs) i = cl (bank cs) 1 + 1 ∨ ∃ c ∈ chs, cl (news cs chs) i = c.2 := by
  unfold news
  rcases foldl_or chs ((bank cs).set 1 (cl (bank cs) 1 + 1)) i with h | h
  · rcases cl_set_or (bank cs) 1 i (cl (bank cs) 1 + 1) with e | e
    · exact .inl (h.trans e)
    · exact .inr (.inl (h.trans e))
  · exact .inr (.inr h)
theorem news_bd {n : Nat} {μ : Mt} (W : Wf n μ) {chs : List (Nat × Int)} (h : ∀ c ∈ chs, c.2.natAbs ≤ wfB (n + 1)) (i : Nat) : (cl (news μ.cells chs) i).natAbs ≤ wfB (n + 1) := by
  have hs := wfB_succ n
  rcases news_or μ.cells chs i with e | e | ⟨c, hc, e⟩
  · have := W.bd i; unfold bk at this; rw [e]; omega
  · have := W.bd 1; unfold bk at this; rw [e]; omega
  · rw [e]; exact h c hc
theorem amt_bd {a : Int} (h : ¬ amt a = false) : 1 ≤ a ∧ a ≤ 99999 := by
  unfold amt at h
  simp at h
  exact h
theorem chs_bd {n : Nat} {μ : Mt} (W : Wf n μ) {d : Dd} (h : refR μ d = none) : ∀ c ∈ chsOf μ d, c.2.natAbs ≤ wfB (n + 1) := by
  have hs := wfB_succ n
  have hlo := wfB_lo n
  have b2 := W.bd 2
  have b3 := W.bd 3
  have b4 := W.bd 4
  have b5 := W.bd 5
  have b6 := W.bd 6
  have b8 := W.bd 8
  cases d with
  | stamp a =>
    have ha : 1 ≤ a ∧ a ≤ 99999 := amt_bd fun z => by simp only [refR, stampR, z] at h; split at h <;> simp at h
    intro c hc
    simp [chsOf, stampChs] at hc
    rcases hc with rfl | rfl | rfl | rfl <;> simp <;> omega
  | back a =>
    have ha : 1 ≤ a ∧ a ≤ 99999 := amt_bd fun z => by simp only [refR, stampR, z] at h; split at h <;> simp at h
    intro c hc
    simp [chsOf, backChs] at hc
    rcases hc with rfl | rfl | rfl | rfl <;> simp <;> omega
  | top z =>
    have ha : 1 ≤ z.a ∧ z.a ≤ 99999 := amt_bd fun q => by simp only [refR, topR, good, q, Bool.and_false, Bool.false_and] at h; split at h <;> simp at h
    intro c hc
    simp [chsOf, topChsL] at hc
    rcases hc with rfl | rfl | rfl <;> simp <;> omega
  | up => intro c hc; simp [chsOf] at hc
theorem ref_up {μ : Mt} {d : Dd} (hd : d ≠ .up) (h : refR μ d = none) : μ.up = true := by
  cases d with
  | up => exact absurd rfl hd
  | stamp a => simp only [refR, stampR] at h; split at h <;> simp_all
  | back a => simp only [refR, stampR] at h; split at h <;> simp_all
  | top z => simp only [refR, topR] at h; split at h <;> simp_all
/-- the changes of a code and of an amount given back leave what is owed -/
theorem news_out {cs : List Int} {chs : List (Nat × Int)} {i : Nat} (h : ∀ c ∈ chs, c.1 ≠ i) (h1 : i ≠ 1) : cl (news cs chs) i = cl (bank cs) i := by
  unfold news
  rw [foldl_cl h, cl_set_ne h1]
theorem owed_wr {μ : Mt} {chs : List (Nat × Int)} (hA : Any μ.cells) (hc : Chs chs) (h : ∀ c ∈ chs, c.1 ≠ 8) (o : owed μ = none) : owed { μ with cells := wr μ.cells (stepsOf μ.cells chs) 11 } = none := by
  unfold owed at o ⊢
  have : ¬ lastNo μ.stamps < bk μ 8 := fun z => by rw [if_pos z] at o; cases o
  rw [bk_wr hA hc, news_out h (by decide)]
  exact if_neg this
theorem news_at {cs : List Int} (hl : cs.length = 20) {chs : List (Nat × Int)} {l r : List (Nat × Int)} {j : Nat} {v : Int} (e : chs = l ++ (j, v) :: r) (h : ∀ c ∈ r, c.1 ≠ j) (hj : j < 10) : cl (news cs chs) j = v := by
  subst e
  unfold news
  rw [List.foldl_append, List.foldl_cons, foldl_cl h, cl_set_eq]
  have : ∀ (l : List (Nat × Int)) (b : List Int), (l.foldl (fun b c => b.set c.1 c.2) b).length = b.length := by
    intro l
    induction l with
    | nil => intro b; rfl
    | cons c r ih => intro b; rw [List.foldl_cons, ih, List.length_set]
  rw [this, List.length_set, bank_len hl]
  exact hj
theorem lastB_back {n : Nat} {μ : Mt} (W : Wf n μ) (a : Int) : lastB { μ with cells := wr μ.cells (stepsOf μ.cells (backChs μ a)) 11 } = cdD (mkCd μ.key μ.num (bk μ 6 + 1) a 2) := by
  have e6 : cl (news μ.cells (backChs μ a)) 6 = bk μ 6 + 1 := news_at W.any.1 (l := [(3, bk μ 3 - a), (4, bk μ 4 - a)]) (r := [(7, a)]) rfl (by simp) (by decide)
  have e7 : cl (news μ.cells (backChs μ a)) 7 = a := news_at W.any.1 (l := [(3, bk μ 3 - a), (4, bk μ 4 - a), (6, bk μ 6 + 1)]) (r := []) rfl (by simp) (by decide)
  unfold lastB
  rw [bk_wr W.any (backChs_ok μ a), bk_wr W.any (backChs_ok μ a), e6, e7]
  have := W.b6
  rw [if_pos (by omega)]
theorem does_due {n : Nat} {μ : Mt} (W : Wf n μ) (d : Dd) (cut : Option Nat) : (∀ r, doesR μ d = some r → dueM μ d cut = (.str r.word, μ)) ∧ (doesR μ d = none → dueM μ d cut = doesM μ d cut) := by
  refine ⟨fun r h => ?_, fun h => ?_⟩
  · cases d with
    | up =>
      by_cases hu : μ.up = true
      · simp [doesR, hu] at h
        subst h
        simp [dueM, hu, Rf.word]
      · simp [doesR, hu] at h
    | stamp a => exact dueM_ref (by simp) h
    | back a => exact dueM_ref (by simp) h
    | top z => exact dueM_ref (by simp) h
  · cases d with
    | up =>
      by_cases hu : μ.up = true
      · simp [doesR, hu] at h
      · have hf : μ.up = false := by simpa using hu
        have e : { μ with up := false } = μ := by rw [← hf]
        cases eo : owed μ with
        | none => simp [dueM, doesM, upM, printM, eo, hf]
        | some s =>
          by_cases hc : cut = some 0
          · simp [dueM, doesM, upM, printM, eo, hf, hc]
            exact e.symm
          · simp [dueM, doesM, upM, printM, eo, hf, hc]
    | stamp a =>
      rw [dueM_run (d := .stamp a) (by simp) h]
      rcases writeM_cases μ (stampChs μ a) cut with ⟨k, _, _, e⟩ | ⟨_, e⟩
      · simp [runM, doesM, stampM, chsOf, e]
      · simp only [runM, doesM, stampM, chsOf, e, toldOf]
        split <;> simp_all
    | back a =>
      have hup := ref_up (d := .back a) (by simp) h
      rw [dueM_run (d := .back a) (by simp) h]
      rcases writeM_cases μ (backChs μ a) cut with ⟨k, _, _, e⟩ | ⟨_, e⟩
      · simp [runM, doesM, backM, chsOf, e]
      · have o := owed_wr W.any (backChs_ok μ a) (by simp [backChs]) (W.ow hup)
        simp only [runM, doesM, backM, chsOf, e, toldOf, printM, o, lastB_back W a, if_true]
    | top z =>
      have hup := ref_up (d := .top z) (by simp) h
      have hz : z.c = bk μ 5 + 1 := by
        simp only [doesR, refR, topR] at h
        split at h
        · cases h
        · split at h
          · cases h
          · rename_i g
            simp [good] at g
            exact g.2.1
      have ec : topChs μ z = topChsL μ z := by unfold topChs topChsL; rw [hz]
      rw [dueM_run (d := .top z) (by simp) h]
      rcases writeM_cases μ (topChsL μ z) cut with ⟨k, _, _, e⟩ | ⟨_, e⟩
      · simp [runM, doesM, topM, chsOf, ec, e]
      · have o := owed_wr W.any (chsOf_ok μ (.top z)) (by simp [chsOf, topChsL]) (W.ow hup)
        simp only [chsOf] at o
        simp only [runM, doesM, topM, chsOf, ec, e, toldOf, printM, o, if_true]
theorem lastNo_app (ss : List (Int × Int)) (s : Int × Int) : lastNo (ss ++ [s]) = s.1 := by
  unfold lastNo
  rw [List.getLast?_concat]
theorem owed_some {μ : Mt} {s : Int × Int} (h : owed μ = some s) : s = (bk μ 8, bk μ 9) := by
  unfold owed at h
  split at h
  · cases h; rfl
  · cases h
theorem owed_app {μ : Mt} {s : Int × Int} (b : Bool) (h : owed μ = some s) : owed { μ with stamps := μ.stamps ++ [s], up := b } = none := by
  have hs := owed_some h
  subst hs
  unfold owed
  show (if lastNo (μ.stamps ++ [(bk μ 8, bk μ 9)]) < bk μ 8 then _ else _) = none
  rw [lastNo_app, if_neg (by simp)]
theorem Wf.down {n : Nat} {μ : Mt} (W : Wf n μ) : Wf n { μ with up := false } := ⟨W.any, (fun z => nomatch z), W.nn, W.kk, W.b6, W.bd, W.ln⟩
theorem Wf.print {n : Nat} {μ : Mt} {s : Int × Int} (b : Bool) (W : Wf n μ) (h : owed μ = some s) : Wf (n + 1) { μ with stamps := μ.stamps ++ [s], up := b } :=
  ⟨W.any, fun _ => owed_app b h, W.nn, W.kk, W.b6, fun i => Nat.le_trans (W.bd i) (wfB_mono (Nat.le_succ n)), by
    show (μ.stamps ++ [s]).length ≤ _
    rw [List.length_append]
    have := W.ln
    simp
    exact this⟩
theorem printM_wf {n : Nat} {μ : Mt} (cut : Option Nat) (h1 : Any μ.cells) (h2 : 1 ≤ μ.num ∧ μ.num ≤ 9999) (h3 : 0 ≤ μ.key ∧ μ.key ≤ 999981) (h4 : 0 ≤ bk μ 6) (h5 : ∀ i, (bk μ i).natAbs ≤ wfB (n + 1)) (h6 : μ.stamps.length ≤ n) : Wf (n + 1) (printM μ cut).2 := by
  unfold printM
  cases eo : owed μ with
  | none => exact ⟨h1, (fun _ => eo), h2, h3, h4, h5, Nat.le_succ_of_le h6⟩
  | some s =>
    by_cases h0 : cut = some 0
    · rw [h0]
      exact ⟨h1, (fun z => nomatch z), h2, h3, h4, h5, Nat.le_succ_of_le h6⟩
    · simp only [h0, if_false]
      refine ⟨h1, (fun _ => owed_app μ.up eo), h2, h3, h4, h5, ?_⟩
      show (μ.stamps ++ [s]).length ≤ _
      rw [List.length_append]
      simp
      exact h6
theorem runM_wf {n : Nat} {μ : Mt} {chs : List (Nat × Int)} (cut : Option Nat) (W : Wf n μ) (hc : Chs chs) (hb : ∀ c ∈ chs, c.2.natAbs ≤ wfB (n + 1)) (h6 : 0 ≤ cl (news μ.cells chs) 6) : Wf (n + 1) (runM μ chs cut).2 := by
  unfold runM
  rcases writeM_cases μ chs cut with ⟨k, _, hk, e⟩ | ⟨_, e⟩
  · rw [e]
    have eb : ∀ i, bk { μ with cells := wr μ.cells (stepsOf μ.cells chs) k, up := false } i = bk μ i := fun i => by unfold bk; rw [bank_wr_cut W.any hk]
    have b6 := W.b6
    have bd := W.bd
    rw [← eb] at b6
    exact ⟨any_wr W.any, (fun z => nomatch z), W.nn, W.kk, b6, (fun i => by have := bd i; rw [← eb i] at this; exact Nat.le_trans this (wfB_mono (Nat.le_succ n))), Nat.le_succ_of_le W.ln⟩
  · rw [e]
    have eb : ∀ i, bk { μ with cells := wr μ.cells (stepsOf μ.cells chs) 11 } i = cl (news μ.cells chs) i := bk_wr W.any hc
    rw [← eb] at h6
    exact printM_wf (μ := { μ with cells := wr μ.cells (stepsOf μ.cells chs) 11 }) _ (any_wr W.any) W.nn W.kk h6 (fun i => by rw [eb]; exact news_bd W hb i) W.ln
theorem chs_b6 {n : Nat} {μ : Mt} (W : Wf n μ) (d : Dd) : 0 ≤ cl (news μ.cells (chsOf μ d)) 6 := by
  have h6 := W.b6
  cases d with
  | stamp a => rw [news_out (by simp [chsOf, stampChs]) (by decide)]; exact h6
  | top z => rw [news_out (by simp [chsOf, topChsL]) (by decide)]; exact h6
  | up => rw [news_out (by simp [chsOf]) (by decide)]; exact h6
  | back a =>
    have e6 : cl (news μ.cells (backChs μ a)) 6 = bk μ 6 + 1 := news_at W.any.1 (l := [(3, bk μ 3 - a), (4, bk μ 4 - a)]) (r := [(7, a)]) rfl (by simp) (by decide)
    show 0 ≤ cl (news μ.cells (backChs μ a)) 6
    rw [e6]
    omega
theorem due_wf {n : Nat} {μ : Mt} (W : Wf n μ) (d : Dd) (cut : Option Nat) : Wf (n + 1) (dueM μ d cut).2 := by
  by_cases hd : d = .up
  · subst hd
    by_cases hu : μ.up = true
    · have e : dueM μ .up cut = (.str "Up", μ) := if_pos hu
      rw [e]
      exact W.mono (Nat.le_succ n)
    · cases eo : owed μ with
      | none =>
        have e : dueM μ .up cut = (.bool true, { μ with up := true }) := by simp [dueM, hu, eo]
        rw [e]
        exact ⟨W.any, (fun _ => eo), W.nn, W.kk, W.b6, (fun i => Nat.le_trans (W.bd i) (wfB_mono (Nat.le_succ n))), Nat.le_succ_of_le W.ln⟩
      | some s =>
        by_cases h0 : cut = some 0
        · have e : dueM μ .up cut = (.none, μ) := by simp [dueM, hu, eo, h0]
          rw [e]
          exact W.mono (Nat.le_succ n)
        · have e : dueM μ .up cut = (.bool true, { μ with stamps := μ.stamps ++ [s], up := true }) := by simp [dueM, hu, eo, h0]
          rw [e]
          exact W.print true eo
  · cases hr : refR μ d with
    | some r => rw [dueM_ref hd hr]; exact W.mono (Nat.le_succ n)
    | none =>
      rw [dueM_run hd hr]
      exact runM_wf cut W (chsOf_ok μ d) (chs_bd W hr) (chs_b6 W d)
end Fk
namespace Fk
open PySem PySem.Spec PyProof.Rows L2
local macro_rules | `(tactic| wtm_at "ln") => `(tactic| first
  | omega
  | (simp only [List.length_cons, List.length_nil, List.length_map, List.length_append, List.length_replicate, List.length_take, List.length_drop, List.length_set]; omega)
  | (with_unfolding_all exact (by decide)))
local macro_rules | `(tactic| wtm_at "ar") => `(tactic| first
  | ((with_reducible show CMulW _ _); (refine' mulS ?_ ?_ <;> omega))
  | ((with_reducible show CDivW _ _); (refine' divS ?_ ?_ <;> omega))
  | ((with_reducible show CPow _ _); exact ⟨by decide, by decide, by decide⟩)
  | (show (0 : Int) < _; omega)
  | (with_unfolding_all exact (by decide)))
local macro_rules | `(tactic| wtm_at "at") => `(tactic| first
  | assumption
  | (refine' cl_atE ?e80 ?h80; (case' e80 => first | exact rfl | assumption); (case' h80 => wtm_at "ln"))
  | exact rfl)
local macro_rules | `(tactic| wtm_at "fr") => `(tactic| first
  | assumption
  | ((with_reducible refine' Mx.free0 ?m99 ?h99); (case' h99 => assumption); (case' m99 => wtm_at "mo")))
local macro_rules | `(tactic| wtm_at "hp") => `(tactic| first
  | assumption
  | ((with_reducible refine' Mx.get0 ?m1 ?h1); (case' m1 => assumption); (case' h1 => wtm_at "hp"))
  | ((with_reducible refine' Mx.get ?m2 ?n2 ?h2); (case' m2 => assumption); (case' n2 => wtm_at "nin"); (case' h2 => wtm_at "hp")))
local macro_rules | `(tactic| wtm_at "sl") => `(tactic| first
  | assumption
  | ((with_reducible refine' Mx.sqL0 ?m96 ?h96); (case' h96 => assumption); (case' m96 => wtm_at "mo"))
  | (refine' SqL.of ?h3; (case' h3 => wtm_at "hp"))
  | ((with_reducible refine' Mx.sqL0 ?m4 ?h4); (case' m4 => assumption); (case' h4 => wtm_at "sl"))
  | ((with_reducible refine' Mx.sqL ?m5 ?n5 ?h5); (case' m5 => assumption); (case' n5 => wtm_at "nin"); (case' h5 => wtm_at "sl")))
local macro_rules | `(tactic| wtm_at "st") => `(tactic| first
  | assumption
  | ((with_reducible refine' Mx.sqT0 ?m97 ?h97); (case' h97 => assumption); (case' m97 => wtm_at "mo"))
  | (refine' SqT.of ?h6; (case' h6 => wtm_at "hp"))
  | ((with_reducible refine' Mx.sqT0 ?m7 ?h7); (case' m7 => assumption); (case' h7 => wtm_at "st"))
  | ((with_reducible refine' Mx.sqT ?m8 ?n8 ?h8); (case' m8 => assumption); (case' n8 => wtm_at "nin"); (case' h8 => wtm_at "st")))
local macro_rules | `(tactic| wtm_at "mx") => `(tactic| first
  | assumption
  | exact Mx.refl
  | ((with_reducible refine' Mx.of0 ?h9); (case' h9 => assumption))
  | ((with_reducible refine' Mx.trans ?h10 ?m10); (case' m10 => first | assumption | ((with_reducible refine' Mx.of0 ?q10); (case' q10 => assumption))); (case' h10 => wtm_at "mx")))
local macro_rules | `(tactic| wtm_at "mo") => `(tactic| first
  | wtm_at "mx"
  | ((with_reducible refine' Mx.own ?m90 ?f90 ?k90); (case' k90 => assumption); (case' f90 => wtm_at "fr"); (case' m90 => wtm_at "mo"))
  | ((with_reducible refine' Mx.trans ?h91 ?m91); (case' m91 => first | assumption | ((with_reducible refine' Mx.of0 ?q91); (case' q91 => assumption))); (case' h91 => wtm_at "mo")))
local macro_rules | `(tactic| wtm_at "ne") => `(tactic| first
  | assumption
  | exact Ne.symm (by assumption)
  | ((with_reducible refine' ne_of_none ?x94 ?y94); (case' y94 => assumption); (case' x94 => wtm_at "hp"))
  | ((with_reducible refine' Ne.symm (ne_of_none ?x95 ?y95)); (case' y95 => assumption); (case' x95 => wtm_at "hp")))
local macro_rules | `(tactic| wtm_at "nin") => `(tactic| first
  | assumption
  | exact List.not_mem_nil
  | ((with_reducible refine' List.not_mem_cons_of_ne_of_not_mem ?h98 ?t98); (case' h98 => wtm_at "ne"); (case' t98 => wtm_at "nin")))
local macro_rules | `(tactic| wtm_at "g1") => `(tactic| first
  | ((with_reducible refine' g_var ?h11 ?k11); (case' h11 => exact rfl))
  | with_reducible refine' g_c ?_
  | with_reducible refine' g_op ?_
  | with_reducible refine' g_I0 ?_
  | ((with_reducible refine' g_I ?c12 ?k12); (case' c12 => wtm_at "ar"))
  | with_reducible refine' g_cons ?_
  | with_reducible refine' g_nil ?_
  | with_reducible refine' g_seq ?_
  | with_reducible refine' g_asg ?_
  | with_reducible refine' g_name ?_
  | with_reducible refine' g_ret ?_
  | with_reducible refine' g_if ?_
  | with_reducible refine' g_test ?_
  | with_reducible refine' g_tB ?_
  | with_reducible refine' g_bl ?_
  | ((with_reducible refine' g_eq ?h13 ?k13); (case' h13 => exact rfl))
  | ((with_reducible refine' g_ne ?h14 ?k14); (case' h14 => exact rfl))
  | with_reducible refine' g_CB ?_
  | with_reducible refine' g_call ?_
  | with_reducible refine' g_drop ?_
  | with_reducible refine' g_next ?_
  | with_reducible refine' g_not ?_
  | with_reducible refine' g_and ?_
  | with_reducible refine' g_or ?_
  | with_reducible refine' g_un ?_
  | with_reducible refine' g_U ?_
  | with_reducible refine' g_tup ?_
  | with_reducible refine' g_lst ?_
  | ((with_reducible refine' g_kNew ?h15 ?k15); (case' h15 => wtm_at "ln"); (case' k15 => intro _ _ _ _ _))
  | ((with_reducible refine' g_ixL ?h16 ?a16 ?k16); (case' h16 => wtm_at "sl"); (case' a16 => wtm_at "at"))
  | ((with_reducible refine' g_ixT ?h17 ?a17 ?k17); (case' h17 => wtm_at "st"); (case' a17 => wtm_at "at"))
  | with_reducible refine' g_slice ?_
  | with_reducible refine' g_part ?_
  | with_reducible refine' g_kPart ?_
  | with_reducible refine' g_noPart ?_
  | ((with_reducible refine' g_slL ?h18 ?k18); (case' h18 => wtm_at "sl"); (case' k18 => intro _ _ _ _ _))
  | ((with_reducible refine' g_cat ?h119 ?h219 ?l19 ?k19); (case' h119 => wtm_at "hp"); (case' h219 => wtm_at "hp"); (case' l19 => wtm_at "ln"); (case' k19 => intro _ _ _ _ _))
  | ((with_reducible refine' g_rep ?h120 ?h220 ?h320 ?l20 ?k20); (case' h120 => wtm_at "hp"); (case' h220 => wtm_at "ln"); (case' h320 => wtm_at "ln"); (case' l20 => wtm_at "ln"); (case' k20 => intro _ _ _ _ _))
  | ((with_reducible refine' g_append ?h21 ?l21 ?k21); (case' h21 => wtm_at "hp"); (case' l21 => wtm_at "ln"); (case' k21 => intro _ _ _))
  | ((with_reducible refine' g_kBM ?h22 ?k22); (case' h22 => wtm_at "sl"))
  | ((with_reducible refine' g_kBM0 ?h23 ?k23); (case' h23 => wtm_at "sl"))
  | ((with_reducible refine' g_kL ?h24 ?k24); (case' h24 => wtm_at "sl"))
  | ((with_reducible refine' g_kR1 ?h125 ?h225 ?k25); (case' h125 => wtm_at "ln"); (case' h225 => wtm_at "ln"))
  | ((with_reducible refine' g_kR2 ?h126 ?h226 ?h326 ?h426 ?k26); (case' h126 => wtm_at "ln"); (case' h226 => wtm_at "ln"); (case' h326 => wtm_at "ln"); (case' h426 => wtm_at "ln"))
  | ((with_reducible refine' g_lenL ?h27 ?k27); (case' h27 => wtm_at "sl"))
  | ((with_reducible refine' g_lenT ?h28 ?k28); (case' h28 => wtm_at "st"))
  | ((with_reducible refine' g_listL ?h29 ?k29); (case' h29 => wtm_at "sl"); (case' k29 => intro _ _ _ _ _))
  | ((with_reducible refine' g_tupleL ?h30 ?k30); (case' h30 => wtm_at "sl"); (case' k30 => intro _ _ _ _ _))
  | with_reducible refine' g_max ?_
  | with_reducible refine' g_min ?_
  | with_reducible refine' g_intB ?_
  | with_reducible refine' g_fld ?_
  | with_reducible refine' g_put ?_
  | with_reducible refine' g_dget ?_
  | with_reducible refine' g_isN ?_
  | with_reducible refine' g_notN ?_
  | with_reducible refine' g_ifE ?_
  | with_reducible refine' g_andV ?_
  | with_reducible refine' g_orV ?_
  | with_reducible refine' g_notV ?_
  | with_reducible refine' g_kIf ?_
  | with_reducible refine' g_chain ?_
  | with_reducible refine' g_kCh ?_
  | with_reducible refine' g_sub ?_
  | ((with_reducible refine' g_setI ?h92 ?e92 ?j92 ?k92); (case' h92 => wtm_at "hp"); (case' e92 => first | exact rfl | assumption); (case' j92 => wtm_at "ln"); (case' k92 => intro _ _ _))
  | ((with_reducible refine' g_setL ?h89 ?i89 ?k89); (case' h89 => wtm_at "hp"); (case' i89 => exact ixE rfl (by wtm_at "ln")); (case' k89 => intro _ _ _))
  | ((with_reducible refine' g_gtup ?h93 ?e93 ?k93); (case' h93 => wtm_at "st"); (case' e93 => exact rfl))
  | with_reducible refine' g_gcons ?_
  | with_reducible refine' g_gnil ?_
  | with_reducible refine' g_par ?_
  | with_reducible refine' g_kPar ?_
  | with_reducible refine' g_meth ?_
  | with_reducible refine' g_bm ?_
  | with_reducible refine' g_bm0 ?_
  | with_reducible refine' g_raise ?_
  | with_reducible refine' g_for ?_
  | with_reducible refine' g_iR1 ?_
  | with_reducible refine' g_iR2 ?_
  | with_reducible refine' g_iL ?_
  | with_reducible refine' g_lc ?_
  | with_reducible refine' g_retN ?_
  | with_reducible refine' g_no (b := false) rfl ?_
  | with_reducible refine' g_yes (b := true) rfl ?_)
local macro_rules | `(tactic| wtm_at "go") => `(tactic| repeat (wtm_at "g1"))
local macro_rules | `(tactic| wtm_at "gs") => `(tactic| repeat ((fail_if_success (with_reducible refine' g_ifE ?_)); wtm_at "g1"))
local macro_rules | `(tactic| wtm_at "gi") => `(tactic| repeat ((fail_if_success (with_reducible refine' g_if ?_)); wtm_at "g1"))
local macro_rules | `(tactic| wtm_at "gr") => `(tactic| repeat ((fail_if_success (with_reducible refine' g_ret ?_)); wtm_at "g1"))
local macro_rules | `(tactic| wtm_at "gq") => `(tactic| repeat ((fail_if_success (with_reducible refine' g_asg ?_)); wtm_at "g1"))
/-! ### a fresh meter -/
def cellsA (c l : Int) : List Int := [1, c, 0, l, l, c, 0, 0, 0, 0] ++ [1, c - 1, 0, l - 1, l - 1, c - 1, 0, 0, 0, 0]
def cellsB (c l : Int) : List Int := [1, c - 1, 0, l - 1, l - 1, c - 1, 0, 0, 0, 0] ++ [1, c, 0, l, l, c, 0, 0, 0, 0]
theorem stand_A (c l : Int) : stand (cellsA c l) = 0 := by
  unfold stand
  rw [if_pos]
  refine ⟨rfl, fun z => ?_⟩
  have : c < c - 1 := z.2
  omega
theorem stand_B (c l : Int) : stand (cellsB c l) = 1 := by
  unfold stand
  rw [if_neg]
  refine fun z => z.2 ⟨rfl, ?_⟩
  show c - 1 < c
  omega
theorem bank_A (c l : Int) : bank (cellsA c l) = [1, c, 0, l, l, c, 0, 0, 0, 0] := by unfold bank; rw [stand_A]; rfl
theorem bank_B (c l : Int) : bank (cellsB c l) = [1, c, 0, l, l, c, 0, 0, 0, 0] := by unfold bank; rw [stand_B]; rfl
theorem cl_ten {c l B : Int} (h1 : 1 ≤ c ∧ c ≤ B) (h2 : 0 ≤ l ∧ l ≤ B) (i : Nat) : 0 ≤ cl [1, c, 0, l, l, c, 0, 0, 0, 0] i ∧ cl [1, c, 0, l, l, c, 0, 0, 0, 0] i ≤ B := by
  match i with
  | 0 => exact ⟨Int.zero_le_ofNat _, by show 1 ≤ B; omega⟩
  | 1 => exact ⟨by show 0 ≤ c; omega, by show c ≤ B; omega⟩
  | 2 => exact ⟨Int.zero_le_ofNat _, by show 0 ≤ B; omega⟩
  | 3 => exact ⟨by show 0 ≤ l; omega, by show l ≤ B; omega⟩
  | 4 => exact ⟨by show 0 ≤ l; omega, by show l ≤ B; omega⟩
  | 5 => exact ⟨by show 0 ≤ c; omega, by show c ≤ B; omega⟩
  | 6 => exact ⟨Int.zero_le_ofNat _, by show 0 ≤ B; omega⟩
  | 7 => exact ⟨Int.zero_le_ofNat _, by show 0 ≤ B; omega⟩
  | 8 => exact ⟨Int.zero_le_ofNat _, by show 0 ≤ B; omega⟩
  | 9 => exact ⟨Int.zero_le_ofNat _, by show 0 ≤ B; omega⟩
  | i + 10 => exact ⟨by show 0 ≤ (0 : Int); decide, by show 0 ≤ B; omega⟩
theorem wf_of {n k : Int} {cs : List Int} (hn : 1 ≤ n ∧ n ≤ 9999) (hk : 0 ≤ k ∧ k ≤ 999981) (hA : Any cs) (hb : ∀ i, 0 ≤ cl (bank cs) i ∧ cl (bank cs) i ≤ 10 ^ 30) (h8 : cl (bank cs) 8 = 0) (b : Bool) : Wf 0 ⟨n, k, cs, [], b⟩ := by
  refine ⟨hA, fun _ => ?_, hn, hk, (hb 6).1, fun i => ?_, Nat.le_refl _⟩
  · unfold owed
    rw [if_neg]
    show ¬ (0 : Int) < cl (bank cs) 8
    rw [h8]
    decide
  · have := hb i
    show (cl (bank cs) i).natAbs ≤ 10 ^ 30
    omega
theorem wf_A {n k c l : Int} (hn : 1 ≤ n ∧ n ≤ 9999) (hk : 0 ≤ k ∧ k ≤ 999981) (hc : 1 ≤ c ∧ c ≤ 10 ^ 30) (hl : 0 ≤ l ∧ l ≤ 10 ^ 30) (b : Bool) : Wf 0 ⟨n, k, cellsA c l, [], b⟩ :=
  wf_of hn hk ⟨rfl, .inl rfl⟩ (fun i => by rw [bank_A]; exact cl_ten hc hl i) (by rw [bank_A]; rfl) b
theorem wf_B {n k c l : Int} (hn : 1 ≤ n ∧ n ≤ 9999) (hk : 0 ≤ k ∧ k ≤ 999981) (hc : 1 ≤ c ∧ c ≤ 10 ^ 30) (hl : 0 ≤ l ∧ l ≤ 10 ^ 30) (b : Bool) : Wf 0 ⟨n, k, cellsB c l, [], b⟩ :=
  wf_of hn hk ⟨rfl, .inl rfl⟩ (fun i => by rw [bank_B]; exact cl_ten hc hl i) (by rw [bank_B]; rfl) b
theorem wf_1 {n k : Int} (hn : 1 ≤ n ∧ n ≤ 9999) (hk : 0 ≤ k ∧ k ≤ 999981) (b : Bool) : Wf 0 ⟨n, k, 1 :: List.replicate 19 0, [], b⟩ := by
  have e : bank (1 :: List.replicate 19 0) = [1, 0, 0, 0, 0, 0, 0, 0, 0, 0] := by decide +kernel
  refine wf_of hn hk ⟨rfl, .inl rfl⟩ (fun i => ?_) (by rw [e]; rfl) b
  rw [e]
  match i with
  | 0 => decide
  | 1 => decide
  | 2 => decide
  | 3 => decide
  | 4 => decide
  | 5 => decide
  | 6 => decide
  | 7 => decide
  | 8 => decide
  | 9 => decide
  | i + 10 => exact ⟨by show 0 ≤ (0 : Int); decide, by show (0 : Int) ≤ 10 ^ 30; decide⟩
/-- what is known of a fresh meter besides -/
structure Fr (μ : Mt) : Prop where
  up : μ.up = true
  st : μ.stamps = []
  b2 : bk μ 2 = 0
  b8 : bk μ 8 = 0
  b3 : 0 ≤ bk μ 3
  b4 : bk μ 3 = bk μ 4
theorem fr_A (n k : Int) {c l : Int} (hl : 0 ≤ l) : Fr ⟨n, k, cellsA c l, [], true⟩ := by
  have e : ∀ i, bk ⟨n, k, cellsA c l, [], true⟩ i = cl [1, c, 0, l, l, c, 0, 0, 0, 0] i := fun i => by unfold bk; rw [bank_A]
  exact ⟨rfl, rfl, by rw [e]; rfl, by rw [e]; rfl, by rw [e]; exact hl, by rw [e, e]; rfl⟩
theorem fr_B (n k : Int) {c l : Int} (hl : 0 ≤ l) : Fr ⟨n, k, cellsB c l, [], true⟩ := by
  have e : ∀ i, bk ⟨n, k, cellsB c l, [], true⟩ i = cl [1, c, 0, l, l, c, 0, 0, 0, 0] i := fun i => by unfold bk; rw [bank_B]
  exact ⟨rfl, rfl, by rw [e]; rfl, by rw [e]; rfl, by rw [e]; exact hl, by rw [e, e]; rfl⟩
theorem fr_1 (n k : Int) : Fr ⟨n, k, 1 :: List.replicate 19 0, [], true⟩ := by
  have e : bank (1 :: List.replicate 19 0) = [1, 0, 0, 0, 0, 0, 0, 0, 0, 0] := by decide +kernel
  have e : ∀ i, bk ⟨n, k, 1 :: List.replicate 19 0, [], true⟩ i = cl [1, 0, 0, 0, 0, 0, 0, 0, 0, 0] i := fun i => by unfold bk; rw [e]
  exact ⟨rfl, rfl, by rw [e]; rfl, by rw [e]; rfl, by rw [e]; decide, by rw [e, e]; rfl⟩
/-- a meter and what is here, nowhere the same -/
structure Pair (K : PySem.W.Frag) (C : Addr) (H : Hp) (p pm pp q qc qs : Addr) (μ : Mt) : Prop where
  m : MetAt K C H p pm pp μ
  l : LmAt K H q qc qs μ
  ap : ∀ x ∈ [p, pm, pp], ∀ y ∈ [q, qc, qs], x ≠ y
theorem Pair.mx {K : PySem.W.Frag} {C : Addr} {S : List Addr} {H H' : Hp} {p pm pp q qc qs : Addr} {μ : Mt} (R : Pair K C H p pm pp q qc qs μ) (m : Mx S H H') (n : NoTup H S) (h : ∀ x ∈ [p, pm, pp, q, qc, qs], x ∉ S) : Pair K C H' p pm pp q qc qs μ :=
  ⟨R.m.mx m n (h _ (by simp)) (h _ (by simp)) (h _ (by simp)), R.l.mx m n (h _ (by simp)) (h _ (by simp)) (h _ (by simp)), R.ap⟩
theorem Pair.mx0 {K : PySem.W.Frag} {C : Addr} {H H' : Hp} {p pm pp q qc qs : Addr} {μ : Mt} (R : Pair K C H p pm pp q qc qs μ) (m : Mx [] H H') : Pair K C H' p pm pp q qc qs μ := R.mx m noTup0 fun _ _ => by simp
theorem StAt.nt {K : PySem.W.Frag} {H0 H : Hp} {r : Addr} (s : StAt K H0 H r) : NoTup H [r] := by
  obtain ⟨_, _, _, _, _, h, _⟩ := s.ex
  exact noTup1 h
section
variable {P : Program} {w : World} {K : PySem.W.Frag} {mg : Str → Option Value} {base : Heap}
local macro_rules | `(tactic| wtm_at "g1") => `(tactic| first
  | ((with_reducible refine' g_fOwn (by assumption) ?h201 ?k201); (case' h201 => wtm_at "hp"))
  | ((with_reducible refine' g_fKey (by assumption) ?h202 ?k202); (case' h202 => wtm_at "hp"))
  | ((with_reducible refine' g_fMem (by assumption) ?h203 ?k203); (case' h203 => wtm_at "hp"))
  | ((with_reducible refine' g_fPri (by assumption) ?h204 ?k204); (case' h204 => wtm_at "hp"))
  | ((with_reducible refine' g_fAwa (by assumption) ?h205 ?k205); (case' h205 => wtm_at "hp"))
  | ((with_reducible refine' g_pAwa (by assumption) ?h206 ?k206); (case' h206 => wtm_at "hp"); (case' k206 => intro _ _ _))
  | ((with_reducible refine' g_kMeth ?h207 ?l207 ?k207); (case' h207 => wtm_at "hp"); (case' l207 => exact rfl)))

local macro_rules | `(tactic| wtm_at "g1") => `(tactic| first
  | ((with_reducible refine' g_dNum ?h311 ?k311); (case' h311 => wtm_at "hp"))
  | ((with_reducible refine' g_dKey ?h312 ?k312); (case' h312 => wtm_at "hp"))
  | ((with_reducible refine' g_dCe ?h313 ?k313); (case' h313 => wtm_at "hp"))
  | ((with_reducible refine' g_dSt ?h314 ?k314); (case' h314 => wtm_at "hp"))
  | ((with_reducible refine' g_dUp ?h315 ?k315); (case' h315 => wtm_at "hp"))
  | ((with_reducible refine' g_kDGetS ?h301 ?l301 ?k301); (case' h301 => wtm_at "hp"); (case' l301 => exact rfl))
  | (with_reducible refine' g_dput ?_)
  | (with_reducible refine' g_iK ?_)
  | ((with_reducible refine' g_disp ?k305); (case' k305 => intro _ _ _ _ _))
  | (with_reducible refine' g_pcons ?_)
  | (with_reducible refine' g_pnil ?_)
  | ((with_reducible refine' g_kDisp ?h306 ?e306 ?f306 ?l306 ?k306); (case' h306 => wtm_at "hp"); (case' e306 => exact rfl); (case' f306 => exact rfl); (case' l306 => wtm_at "ln"); (case' k306 => intro _ _ _))
  | ((with_reducible refine' g_pUp ?h302 ?k302); (case' h302 => wtm_at "hp"); (case' k302 => intro _ _ _))
  | ((with_reducible refine' g_pSt ?h303 ?k303); (case' h303 => wtm_at "hp"); (case' k303 => intro _ _ _))
  | ((with_reducible refine' g_pCe ?h304 ?k304); (case' h304 => wtm_at "hp"); (case' k304 => intro _ _ _)))

def spFresh (T : Tx K mg) : Sp := fun vs H Q _ => ∃ (H0 : Hp) (r : Addr), vs = [.ref r] ∧ StAt K H0 H r ∧ ∀ t p pm pp q qc qs μ H', (∀ x ∈ [p, pm, pp, q, qc, qs], H x = none) → Mx [r] H H' → StAt K H0 H' r → Pair K T.C_Meter H' p pm pp q qc qs μ → (Wf 0 μ ∧ Fr μ) → H' t = some (.tup [.ref p, .ref q]) → Q (.ref t) H'
theorem c__law_fresh (T : Tx K mg) : Cl P w K mg base 6 "_law_fresh" (spFresh T) [] := by
  refine T.f__law_fresh.cl sc__law_fresh (fun vs H Q E h => ?_) (fun cdv A outer s H vs Q E hr h => ?_)
  · obtain ⟨_, _, rfl, _⟩ := h
    rfl
  · obtain ⟨H0, r, rfl, S, k⟩ := h
    have hu := hu_of hr
    refine ⟨_, (pss_cons (ps_set (i := 1) sc__law_fresh.nd rfl (Or.inl rfl) (pe_ix (ixL K) (pe_lst (pa_cons (pe_op op_add pe_int (q_call (c__law_drawn T) hr (by decide) rfl (passes_call (takes_of rfl rfl rfl rfl) (fun _ _ _ _ h => h)) (pa_cons (pv 0) (pa_cons pe_int pa_nil)))) (pa_cons pe_int (pa_cons pe_int pa_nil)))) (q_call (c__law_drawn T) hr (by decide) rfl (passes_call (takes_of rfl rfl rfl rfl) (fun _ _ _ _ h => h)) (pa_cons (pv 0) (pa_cons pe_int pa_nil))) (fun _ _ => rfl)))
      (pss_cons (ps_set (i := 2) sc__law_fresh.nd rfl (Or.inl rfl) (pe_ix (ixL K) (pe_lst (pa_cons (q_call (c__law_drawn T) hr (by decide) rfl (passes_call (takes_of rfl rfl rfl rfl) (fun _ _ _ _ h => h)) (pa_cons (pv 0) (pa_cons pe_int pa_nil))) (pa_cons pe_int (pa_cons pe_int pa_nil)))) (q_call (c__law_drawn T) hr (by decide) rfl (passes_call (takes_of rfl rfl rfl rfl) (fun _ _ _ _ h => h)) (pa_cons (pv 0) (pa_cons pe_int pa_nil))) (fun _ _ => rfl)))
      (pss_cons (ps_par (i := 3) (j := 4) (by rfl) sc__law_fresh.nd rfl rfl (by decide) rfl rfl (pa_cons (q_make (mk_Meter T) hr (by decide) rfl (passes_call (takes_of rfl rfl rfl rfl) (fun _ _ _ _ h => h)) (pa_cons (pv 1) (pa_cons (pv 2) pa_nil))) (pa_cons (q_call (c__law_meter T) hr (by decide) rfl (passes_call (takes_of rfl rfl rfl rfl) (fun _ _ _ _ h => h)) (pa_cons (pv 1) (pa_cons (pv 2) pa_nil))) pa_nil)) (by rfl))
      (pss_cons (ps_if (pt_cmpR op_eq (q_call (c__law_drawn T) hr (by decide) rfl (passes_call (takes_of rfl rfl rfl rfl) (fun _ _ _ _ h => h)) (pa_cons (pv 0) (pa_cons pe_int pa_nil))) pe_int (by first | exact nomark _ | rfl)) (pss_cons (ps_set (i := 5) sc__law_fresh.nd rfl (Or.inl rfl) (pe_op op_add pe_int (q_call (c__law_drawn T) hr (by decide) rfl (passes_call (takes_of rfl rfl rfl rfl) (fun _ _ _ _ h => h)) (pa_cons (pv 0) (pa_cons (pe_op op_pow pe_int pe_int) pa_nil)))))
      (pss_cons (ps_set (i := 6) sc__law_fresh.nd rfl (Or.inl rfl) (pe_op op_add (pv 5) (q_call (c__law_drawn T) hr (by decide) rfl (passes_call (takes_of rfl rfl rfl rfl) (fun _ _ _ _ h => h)) (pa_cons (pv 0) (pa_cons (pe_op op_mulW (pv 5) pe_int) pa_nil)))))
      (pss_cons (ps_set (i := 7) sc__law_fresh.nd rfl (Or.inl rfl) (pe_lst (pa_cons pe_int (pa_cons (pe_op op_sub (pv 5) pe_int) (pa_cons pe_int (pa_cons (pe_op op_sub (pv 6) pe_int) (pa_cons (pe_op op_sub (pv 6) pe_int) (pa_cons (pe_op op_sub (pv 5) pe_int) (pa_cons pe_int (pa_cons pe_int (pa_cons pe_int (pa_cons pe_int pa_nil))))))))))))
      (pss_cons (ps_dput hu (pv 4) pe_str (pe_op op_cat (pe_lst (pa_cons pe_int (pa_cons (pv 5) (pa_cons pe_int (pa_cons (pv 6) (pa_cons (pv 6) (pa_cons (pv 5) (pa_cons pe_int (pa_cons pe_int (pa_cons pe_int (pa_cons pe_int pa_nil))))))))))) (pv 7)) rfl)
      (pss_cons (ps_if (pt_cmpR op_eq (q_call (c__law_drawn T) hr (by decide) rfl (passes_call (takes_of rfl rfl rfl rfl) (fun _ _ _ _ h => h)) (pa_cons (pv 0) (pa_cons pe_int pa_nil))) pe_int (by first | exact nomark _ | rfl)) (pss_one (ps_dput hu (pv 4) pe_str (pe_op op_cat (pv 7) (pe_slice (slL K) (pe_dget hu (pv 4) pe_str (fun _ _ => rfl)) po_none (po_some pe_int))) rfl)) pss_nil)
      (pss_cons (ps_set (i := 3) sc__law_fresh.nd rfl (Or.inl rfl) (q_call (c_recovered T) hr (by decide) rfl (passes_call (takes_of rfl rfl rfl rfl) (fun _ _ _ _ h => h)) (pa_cons (pv 1) (pa_cons (pv 2) (pa_cons (pe_callTy (cList K) (by rfl) T.n_list (by decide +kernel) (pa_cons (pe_dget hu (pv 4) pe_str (fun _ _ => rfl)) pa_nil)) (pa_cons (pe_lst pa_nil) pa_nil))))))
      (pss_one (ps_expr (q_meth0 (mt_Meter_come_up_d T) hr (by decide) (pv 3) (passes_call (takes_of rfl rfl rfl rfl) (fun _ _ _ _ h => h))))))))))) pss_nil)
      (pss_one (ps_ret (pe_tup (pa_cons (pv 3) (pa_cons (pv 4) pa_nil))))))))), ?_⟩
    with_reducible refine g_seq ?_
    refine g_cutS (fun N => ∀ n H1, 1 ≤ n ∧ n ≤ 9999 → Mx [r] H H1 → StAt K H0 H1 r → N [some (.ref r), some (.int n), none, none, none, none, none, none] H1) (fun N hN => ?_) (fun n H1 hn m1 S1 => ?_)
    · wtm_at "go"
      refine ⟨H0, r, 9999, rfl, S, by omega, by omega, fun x H1 x0 x1 m1 S1 => ?_⟩
      wtm_at "go"
      rename_i l H2 n2 m2 e2
      have ne := S1.new n2
      refine ⟨H0, r, 3, rfl, S1.mx0 m2, by omega, by omega, fun y H3 y0 y1 m3 S3 => ?_⟩
      have e3 : H3 l = some (.lst [.int (1 + x), .int 1, .int 9999]) := m3 _ _ e2 (by simpa using ne)
      have c3 : Mx [r] H H3 := (m1.trans m2.of0).trans m3
      have hy : y = 0 ∨ y = 1 ∨ y = 2 := by omega
      rcases hy with rfl | rfl | rfl
      · wtm_at "go"
        exact hN _ _ (by omega) c3 S3
      · wtm_at "go"
        exact hN _ _ (by omega) c3 S3
      · wtm_at "go"
        exact hN _ _ (by omega) c3 S3
    with_reducible refine g_seq ?_
    refine g_cutS (fun N => ∀ k H2, 0 ≤ k ∧ k ≤ 999981 → Mx [r] H H2 → StAt K H0 H2 r → N [some (.ref r), some (.int n), some (.int k), none, none, none, none, none] H2) (fun N hN => ?_) (fun ky H2 hk m2 S2 => ?_)
    · wtm_at "go"
      refine ⟨H0, r, 999982, rfl, S1, by omega, by omega, fun x H2 x0 x1 m2 S2 => ?_⟩
      wtm_at "go"
      rename_i l H3 n3 m3 e3
      have ne := S2.new n3
      refine ⟨H0, r, 3, rfl, S2.mx0 m3, by omega, by omega, fun y H4 y0 y1 m4 S4 => ?_⟩
      have e4 : H4 l = some (.lst [.int x, .int 0, .int 999981]) := m4 _ _ e3 (by simpa using ne)
      have c4 : Mx [r] H H4 := ((m1.trans m2).trans m3.of0).trans m4
      have hy : y = 0 ∨ y = 1 ∨ y = 2 := by omega
      rcases hy with rfl | rfl | rfl
      · wtm_at "go"
        exact hN _ _ (by omega) c4 S4
      · wtm_at "go"
        exact hN _ _ (by omega) c4 S4
      · wtm_at "go"
        exact hN _ _ (by omega) c4 S4
    clear m1 S1
    with_reducible refine g_seq ?_
    refine g_cutS (fun N => ∀ p pm pp q qc qs H3, (∀ x ∈ [p, pm, pp, q, qc, qs], H2 x = none) → Mx [] H2 H3 → Pair K T.C_Meter H3 p pm pp q qc qs ⟨n, ky, 1 :: List.replicate 19 0, [], true⟩ → N [some (.ref r), some (.int n), some (.int ky), some (.ref p), some (.ref q), none, none, none] H3) (fun N hN => ?_) (fun p pm pp q qc qs H3 hf m3 PR => ?_)
    · wtm_at "go"
      refine g_make ?_
      wtm_at "go"
      refine g_kMake fun p dx H3 n3 m3 e3 => ?_
      refine ⟨p, dx, n, ky, rfl, e3, fun hv pm pp H4 n4 n5 m4 M => g_kMk ?_, fun hv => absurd ⟨hn, hk⟩ hv⟩
      have c4 : Mx [] H2 H4 := m3.own n3 m4
      wtm_at "go"
      refine ⟨n, ky, rfl, fun q qc qs H5 f1 f2 f3 m5 L => ?_⟩
      wtm_at "go"
      refine hN p pm pp q qc qs H5 ?_ (c4.trans m5) ⟨M.mx0 m5, L, ?_⟩
      · simp only [List.mem_cons, List.not_mem_nil, or_false, forall_eq_or_imp, forall_eq]
        exact ⟨n3, m3.free0 n4, m3.free0 n5, c4.free0 f1, c4.free0 f2, c4.free0 f3⟩
      · obtain ⟨⟨dx2, ob⟩, me, ⟨vs, pr, dp⟩, ne⟩ := M
        have key : ∀ x, H4 x ≠ none → ∀ y ∈ [q, qc, qs], x ≠ y := by
          intro x hx y hy z
          subst z
          simp only [List.mem_cons, List.not_mem_nil, or_false] at hy
          rcases hy with rfl | rfl | rfl
          · exact hx f1
          · exact hx f2
          · exact hx f3
        intro x hx
        simp only [List.mem_cons, List.not_mem_nil, or_false] at hx
        rcases hx with rfl | rfl | rfl
        · exact key _ (by rw [ob]; simp)
        · exact key _ (by rw [me]; simp)
        · exact key _ (by rw [pr]; simp)
    · have hr3 : ∀ x ∈ [p, pm, pp, q, qc, qs], x ≠ r := fun x hx => S2.new (hf x hx)
      have S3 := S2.mx0 m3
      wtm_at "go"
      refine ⟨H0, r, 4, rfl, S3, by omega, by omega, fun x H4 x0 x1 m4 S4 => ?_⟩
      have PR4 := PR.mx m4 S3.nt (fun x hx => by simpa using hr3 x hx)
      have c4 : Mx [r] H H4 := (m2.trans m3.of0).trans m4
      clear PR S3 m4
      wtm_at "go"
      have hf0 : ∀ x ∈ [p, pm, pp, q, qc, qs], H x = none := fun x hx => m2.free (hf x hx) (by simpa using hr3 x hx)
      refine g_ite (fun e => ?_) (fun e => ?_)
      · wtm_at "go"
        refine ⟨H0, r, _, rfl, S4, by decide, by decide, fun y H5 y0 y1 m5 S5 => ?_⟩
        have L5 := (PR4.mx m5 S4.nt (fun x hx => by simpa using hr3 x hx)).l
        have c5 := c4.trans m5
        have y2 : y < 10 ^ 18 := y1
        clear m5 S4 c4 PR4 y1
        wtm_at "go"
        refine ⟨H0, r, _, rfl, S5, by omega, by omega, fun z H6 z0 z1 m6 S6 => ?_⟩
        have L6 := L5.mx m6 S5.nt (by simpa using hr3 q (by simp)) (by simpa using hr3 qc (by simp)) (by simpa using hr3 qs (by simp))
        have c6 := c5.trans m6
        obtain ⟨c, hc⟩ : ∃ c : Int, c = 2 + y := ⟨_, rfl⟩
        obtain ⟨l, hl⟩ : ∃ l : Int, l = c + z := ⟨_, rfl⟩
        have bc : 1 ≤ c ∧ c ≤ 10 ^ 30 := by omega
        have bl : 0 ≤ l ∧ l ≤ 10 ^ 30 := by omega
        obtain ⟨ob6, _, ⟨vs6, st6, dp6⟩, _⟩ := L6
        have hz : vs6 = [] := by
          have := dp6.len
          simpa using this
        subst hz
        clear m6 S5 c5 L5
        wtm_at "gi"
        rename_i le H7 n7 m7 e7 la H8 n8 m8 e8 lc H9 n9 m9 e9 H10 m10 e10
        have ec : (2 + y) = c := hc.symm
        have el : c + z = l := hl.symm
        rw [ec, el] at e7 e8 e9
        rw [ec, el]
        have hq := hf0 q (by simp)
        have rq : q ≠ r := hr3 q (by simp)
        have hqs := hf0 qs (by simp)
        have qqs : q ≠ qs := ne_of ob6 st6 fun z => nomatch z
        have m69 : Mx [] H6 H9 := (m7.trans m8).trans m9
        have c9 : Mx [r] H H9 := c6.trans m69.of0
        have c10 : Mx [r] H H10 := c9.own hq m10
        have S9 := S6.mx0 m69
        have S10 : StAt K H0 H10 r := S9.mv m10 (by simpa using S.mx.free0 hq) (by simpa using rq.symm)
        have lcq : lc ≠ q := (ne_of_none (m8.get0 (m7.get0 ob6)) n9).symm
        have leq : le ≠ q := (ne_of_none ob6 n7).symm
        have ler : le ≠ r := S6.new n7
        have lcr : lc ≠ r := (S6.mx0 (m7.trans m8)).new n9
        have flc : H lc = none := c6.free ((m7.trans m8).free0 n9) (by simpa using lcr)
        have e9' : H10 lc = some (.lst ((cellsA c l).map V.int)) := m10 _ _ e9 (by simpa using lcq)
        have e7' : H10 le = some (.lst (([1, c - 1, 0, l - 1, l - 1, c - 1, 0, 0, 0, 0] : List Int).map V.int)) := m10 _ _ (m9.get0 (m8.get0 e7)) (by simpa using leq)
        have lcs : lc ≠ qs := (ne_of_none (m8.get0 (m7.get0 st6)) n9).symm
        have st10 : H10 qs = some (.lst []) := m10 _ _ (m69.get0 st6) (by simpa using qqs.symm)
        have L10 : LmAt K H10 q lc qs ⟨n, ky, cellsA c l, [], true⟩ := ⟨e10, e9', ⟨[], st10, .nil⟩, lcs⟩
        clear m7 m8 m9 m10 e7 e8 e9 n7 n8 n9 ob6 st6 dp6 S6 S9 c6 c9 m69
        refine g_cutS (fun N => ∀ cs qc2 H11, (cs = cellsA c l ∨ cs = cellsB c l) → H qc2 = none → Mx [r] H H11 → StAt K H0 H11 r → LmAt K H11 q qc2 qs ⟨n, ky, cs, [], true⟩ → N [some (.ref r), some (.int n), some (.int ky), some (.ref p), some (.ref q), some (.int c), some (.int l), some (.ref le)] H11) (fun N hN => ?_) (fun cs qc2 H11 hcs fq c11 S11 L11 => ?_)
        · wtm_at "go"
          refine ⟨H0, r, 2, rfl, S10, by omega, by omega, fun y H11 y0 y1 m11 S11 => ?_⟩
          have L11 := L10.mx m11 S10.nt (by simpa using rq) (by simpa using lcr) (by simpa using hr3 qs (by simp))
          have e11 : H11 le = some (.lst (([1, c - 1, 0, l - 1, l - 1, c - 1, 0, 0, 0, 0] : List Int).map V.int)) := m11 _ _ e7' (by simpa using ler)
          have L11' := L11
          obtain ⟨ob11, ce11, ⟨vs11, st11, dp11⟩, _⟩ := L11
          wtm_at "go"
          refine g_ite (fun e => ?_) (fun e => ?_)
          · wtm_at "go"
            rename_i pA HA nA mA eA
            have eA' : HA pA = some (.lst (([1, c, 0, l, l, c, 0, 0, 0, 0] : List Int).map V.int)) := eA
            clear eA
            wtm_at "go"
            rename_i pB HB nB mB eB HC mC eC
            have c11 := c10.trans m11
            have rB : pB ≠ r := (S11.mx0 mA).new nB
            have qB : pB ≠ q := (ne_of_none (mA.get0 ob11) nB).symm
            have sB : pB ≠ qs := (ne_of_none (mA.get0 st11) nB).symm
            have SB : StAt K H0 HB r := S11.mx0 (mA.trans mB)
            refine hN (cellsB c l) pB HC (.inr rfl) (c11.free (mA.free0 nB) (by simpa using rB)) (((c11.trans mA.of0).trans mB.of0).own hq mC) (SB.mv mC (by simpa using S.mx.free0 hq) (by simpa using rq.symm)) ⟨eC, mC _ _ eB (by simpa using qB), ⟨vs11, ?_, ?_⟩, sB⟩
            · exact mC _ _ (mB.get0 (mA.get0 st11)) (by simpa using qqs.symm)
            · have : vs11 = [] := by
                have := dp11.len
                simpa using this
              subst this
              exact .nil
          · wtm_at "go"
            exact hN _ _ _ (.inl rfl) flc (c10.trans m11) S11 L11'
        · have L11' := L11
          obtain ⟨ob11, ce11, ⟨vs11, st11, dp11⟩, ne11⟩ := L11
          wtm_at "go"
          rename_i l1 H12 n12 m12 e12 l2 H13 n13 m13 e13
          have W : Wf 0 ⟨n, ky, cs, [], true⟩ := by
            rcases hcs with rfl | rfl
            · exact wf_A hn hk bc bl true
            · exact wf_B hn hk bc bl true
          have hA : Any cs := W.any
          refine ⟨n, ky, l1, l2, cs, [], [], rfl, SqL.of (m13.get0 e12), by have := hA.1; omega, SqL.of e13, .nil, fun _ _ p2 pm2 pp2 H14 f1 f2 f3 m14 M2 => ?_, fun hv => absurd ⟨hn, hk⟩ hv, fun _ hv => absurd hA hv⟩
          obtain ⟨dx2, ob2⟩ := M2.ob
          wtm_at "go"
          refine ⟨p2, pm2, pp2, ⟨n, ky, cs, [], false⟩, none, rfl, M2, hA, by show 0 < 1000; decide, (fun z => nomatch z), fun _ v H15 m15 M15 d15 => ?_⟩
          have eo : owed ⟨n, ky, cs, [], false⟩ = none := W.ow rfl
          have eu : (upM ⟨n, ky, cs, [], false⟩ none).2 = ⟨n, ky, cs, [], true⟩ := by simp only [upM, printM, eo, if_true]
          rw [eu] at M15
          have m1113 : Mx [] H11 H13 := m12.trans m13
          have m1115 : Mx [] H11 H15 := fun a o e _ => m15 a o (m14.get0 (m1113.get0 e)) (by
            have := m1113.get0 e
            simp only [List.mem_cons, List.not_mem_nil, or_false, not_or]
            exact ⟨ne_of_none this f1, ne_of_none this f2, ne_of_none this f3⟩)
          wtm_at "go"
          rename_i t H16 n16 m16 e16
          have nr : ∀ x, H13 x = none → x ≠ r := fun x hx => (S11.mx0 m1113).new hx
          have c13 : Mx [r] H H13 := c11.trans m1113.of0
          refine k t p2 pm2 pp2 q qc2 qs ⟨n, ky, cs, [], true⟩ H16 ?_ (c11.trans (m1115.trans m16).of0) (S11.mx0 (m1115.trans m16)) ⟨M15.mx0 m16, L11'.mx0 (m1115.trans m16), ?_⟩ ⟨W, by rcases hcs with rfl | rfl; exact fr_A n ky bl.1; exact fr_B n ky bl.1⟩ e16
          · simp only [List.mem_cons, List.not_mem_nil, or_false, forall_eq_or_imp, forall_eq]
            exact ⟨c13.free f1 (by simpa using nr _ f1), c13.free f2 (by simpa using nr _ f2), c13.free f3 (by simpa using nr _ f3), hq, fq, hqs⟩
          · have key : ∀ y, H11 y ≠ none → ∀ x ∈ [p2, pm2, pp2], x ≠ y := by
              intro y hy x hx z
              subst z
              have h13 : H13 x = none := by
                simp only [List.mem_cons, List.not_mem_nil, or_false] at hx
                rcases hx with rfl | rfl | rfl
                · exact f1
                · exact f2
                · exact f3
              exact hy (m1113.free0 h13)
            intro x hx y hy
            simp only [List.mem_cons, List.not_mem_nil, or_false] at hy
            rcases hy with rfl | rfl | rfl
            · exact key _ (by rw [ob11]; simp) x hx
            · exact key _ (by rw [ce11]; simp) x hx
            · exact key _ (by rw [st11]; simp) x hx
      · wtm_at "go"
        rename_i t H5 n5 m5 e5
        exact k t p pm pp q qc qs _ H5 hf0 (c4.trans m5.of0) (S4.mx0 m5) (PR4.mx0 m5) ⟨wf_1 hn hk true, fr_1 n ky⟩ e5
end
end Fk
namespace Fk
open PySem PySem.Spec PyProof.Rows L2
local macro_rules | `(tactic| wtm_at "ln") => `(tactic| first
  | omega
  | (simp only [List.length_cons, List.length_nil, List.length_map, List.length_append, List.length_replicate, List.length_take, List.length_drop, List.length_set]; omega)
  | (with_unfolding_all exact (by decide)))
local macro_rules | `(tactic| wtm_at "ar") => `(tactic| first
  | ((with_reducible show CMulW _ _); (refine' mulS ?_ ?_ <;> omega))
  | ((with_reducible show CDivW _ _); (refine' divS ?_ ?_ <;> omega))
  | ((with_reducible show CPow _ _); exact ⟨by decide, by decide, by decide⟩)
  | (show (0 : Int) < _; omega)
  | (with_unfolding_all exact (by decide)))
local macro_rules | `(tactic| wtm_at "at") => `(tactic| first
  | assumption
  | (refine' cl_atE ?e80 ?h80; (case' e80 => first | exact rfl | assumption); (case' h80 => wtm_at "ln"))
  | exact rfl)
local macro_rules | `(tactic| wtm_at "fr") => `(tactic| first
  | assumption
  | ((with_reducible refine' Mx.free0 ?m99 ?h99); (case' h99 => assumption); (case' m99 => wtm_at "mo")))
local macro_rules | `(tactic| wtm_at "hp") => `(tactic| first
  | assumption
  | ((with_reducible refine' Mx.get0 ?m1 ?h1); (case' m1 => assumption); (case' h1 => wtm_at "hp"))
  | ((with_reducible refine' Mx.get ?m2 ?n2 ?h2); (case' m2 => assumption); (case' n2 => wtm_at "nin"); (case' h2 => wtm_at "hp")))
local macro_rules | `(tactic| wtm_at "sl") => `(tactic| first
  | assumption
  | ((with_reducible refine' Mx.sqL0 ?m96 ?h96); (case' h96 => assumption); (case' m96 => wtm_at "mo"))
  | (refine' SqL.of ?h3; (case' h3 => wtm_at "hp"))
  | ((with_reducible refine' Mx.sqL0 ?m4 ?h4); (case' m4 => assumption); (case' h4 => wtm_at "sl"))
  | ((with_reducible refine' Mx.sqL ?m5 ?n5 ?h5); (case' m5 => assumption); (case' n5 => wtm_at "nin"); (case' h5 => wtm_at "sl")))
local macro_rules | `(tactic| wtm_at "st") => `(tactic| first
  | assumption
  | ((with_reducible refine' Mx.sqT0 ?m97 ?h97); (case' h97 => assumption); (case' m97 => wtm_at "mo"))
  | (refine' SqT.of ?h6; (case' h6 => wtm_at "hp"))
  | ((with_reducible refine' Mx.sqT0 ?m7 ?h7); (case' m7 => assumption); (case' h7 => wtm_at "st"))
  | ((with_reducible refine' Mx.sqT ?m8 ?n8 ?h8); (case' m8 => assumption); (case' n8 => wtm_at "nin"); (case' h8 => wtm_at "st")))
local macro_rules | `(tactic| wtm_at "mx") => `(tactic| first
  | assumption
  | exact Mx.refl
  | ((with_reducible refine' Mx.of0 ?h9); (case' h9 => assumption))
  | ((with_reducible refine' Mx.trans ?h10 ?m10); (case' m10 => first | assumption | ((with_reducible refine' Mx.of0 ?q10); (case' q10 => assumption))); (case' h10 => wtm_at "mx")))
local macro_rules | `(tactic| wtm_at "mo") => `(tactic| first
  | wtm_at "mx"
  | ((with_reducible refine' Mx.own ?m90 ?f90 ?k90); (case' k90 => assumption); (case' f90 => wtm_at "fr"); (case' m90 => wtm_at "mo"))
  | ((with_reducible refine' Mx.trans ?h91 ?m91); (case' m91 => first | assumption | ((with_reducible refine' Mx.of0 ?q91); (case' q91 => assumption))); (case' h91 => wtm_at "mo")))
local macro_rules | `(tactic| wtm_at "ne") => `(tactic| first
  | assumption
  | exact Ne.symm (by assumption)
  | ((with_reducible refine' ne_of_none ?x94 ?y94); (case' y94 => assumption); (case' x94 => wtm_at "hp"))
  | ((with_reducible refine' Ne.symm (ne_of_none ?x95 ?y95)); (case' y95 => assumption); (case' x95 => wtm_at "hp")))
local macro_rules | `(tactic| wtm_at "nin") => `(tactic| first
  | assumption
  | exact List.not_mem_nil
  | ((with_reducible refine' List.not_mem_cons_of_ne_of_not_mem ?h98 ?t98); (case' h98 => wtm_at "ne"); (case' t98 => wtm_at "nin")))
local macro_rules | `(tactic| wtm_at "g1") => `(tactic| first
  | ((with_reducible refine' g_var ?h11 ?k11); (case' h11 => exact rfl))
  | with_reducible refine' g_c ?_
  | with_reducible refine' g_op ?_
  | with_reducible refine' g_I0 ?_
  | ((with_reducible refine' g_I ?c12 ?k12); (case' c12 => wtm_at "ar"))
  | with_reducible refine' g_cons ?_
  | with_reducible refine' g_nil ?_
  | with_reducible refine' g_seq ?_
  | with_reducible refine' g_asg ?_
  | with_reducible refine' g_name ?_
  | with_reducible refine' g_ret ?_
  | with_reducible refine' g_if ?_
  | with_reducible refine' g_test ?_
  | with_reducible refine' g_tB ?_
  | with_reducible refine' g_bl ?_
  | ((with_reducible refine' g_eq ?h13 ?k13); (case' h13 => exact rfl))
  | ((with_reducible refine' g_ne ?h14 ?k14); (case' h14 => exact rfl))
  | with_reducible refine' g_CB ?_
  | with_reducible refine' g_call ?_
  | with_reducible refine' g_drop ?_
  | with_reducible refine' g_next ?_
  | with_reducible refine' g_not ?_
  | with_reducible refine' g_and ?_
  | with_reducible refine' g_or ?_
  | with_reducible refine' g_un ?_
  | with_reducible refine' g_U ?_
  | with_reducible refine' g_tup ?_
  | with_reducible refine' g_lst ?_
  | ((with_reducible refine' g_kNew ?h15 ?k15); (case' h15 => wtm_at "ln"); (case' k15 => intro _ _ _ _ _))
  | ((with_reducible refine' g_ixL ?h16 ?a16 ?k16); (case' h16 => wtm_at "sl"); (case' a16 => wtm_at "at"))
  | ((with_reducible refine' g_ixT ?h17 ?a17 ?k17); (case' h17 => wtm_at "st"); (case' a17 => wtm_at "at"))
  | with_reducible refine' g_slice ?_
  | with_reducible refine' g_part ?_
  | with_reducible refine' g_kPart ?_
  | with_reducible refine' g_noPart ?_
  | ((with_reducible refine' g_slL ?h18 ?k18); (case' h18 => wtm_at "sl"); (case' k18 => intro _ _ _ _ _))
  | ((with_reducible refine' g_cat ?h119 ?h219 ?l19 ?k19); (case' h119 => wtm_at "hp"); (case' h219 => wtm_at "hp"); (case' l19 => wtm_at "ln"); (case' k19 => intro _ _ _ _ _))
  | ((with_reducible refine' g_rep ?h120 ?h220 ?h320 ?l20 ?k20); (case' h120 => wtm_at "hp"); (case' h220 => wtm_at "ln"); (case' h320 => wtm_at "ln"); (case' l20 => wtm_at "ln"); (case' k20 => intro _ _ _ _ _))
  | ((with_reducible refine' g_append ?h21 ?l21 ?k21); (case' h21 => wtm_at "hp"); (case' l21 => wtm_at "ln"); (case' k21 => intro _ _ _))
  | ((with_reducible refine' g_kBM ?h22 ?k22); (case' h22 => wtm_at "sl"))
  | ((with_reducible refine' g_kBM0 ?h23 ?k23); (case' h23 => wtm_at "sl"))
  | ((with_reducible refine' g_kL ?h24 ?k24); (case' h24 => wtm_at "sl"))
  | ((with_reducible refine' g_kR1 ?h125 ?h225 ?k25); (case' h125 => wtm_at "ln"); (case' h225 => wtm_at "ln"))
  | ((with_reducible refine' g_kR2 ?h126 ?h226 ?h326 ?h426 ?k26); (case' h126 => wtm_at "ln"); (case' h226 => wtm_at "ln"); (case' h326 => wtm_at "ln"); (case' h426 => wtm_at "ln"))
  | ((with_reducible refine' g_lenL ?h27 ?k27); (case' h27 => wtm_at "sl"))
  | ((with_reducible refine' g_lenT ?h28 ?k28); (case' h28 => wtm_at "st"))
  | ((with_reducible refine' g_listL ?h29 ?k29); (case' h29 => wtm_at "sl"); (case' k29 => intro _ _ _ _ _))
  | ((with_reducible refine' g_tupleL ?h30 ?k30); (case' h30 => wtm_at "sl"); (case' k30 => intro _ _ _ _ _))
  | with_reducible refine' g_max ?_
  | with_reducible refine' g_min ?_
  | with_reducible refine' g_intB ?_
  | with_reducible refine' g_fld ?_
  | with_reducible refine' g_put ?_
  | with_reducible refine' g_dget ?_
  | with_reducible refine' g_isN ?_
  | with_reducible refine' g_notN ?_
  | with_reducible refine' g_ifE ?_
  | with_reducible refine' g_andV ?_
  | with_reducible refine' g_orV ?_
  | with_reducible refine' g_notV ?_
  | with_reducible refine' g_kIf ?_
  | with_reducible refine' g_chain ?_
  | with_reducible refine' g_kCh ?_
  | with_reducible refine' g_sub ?_
  | ((with_reducible refine' g_setI ?h92 ?e92 ?j92 ?k92); (case' h92 => wtm_at "hp"); (case' e92 => first | exact rfl | assumption); (case' j92 => wtm_at "ln"); (case' k92 => intro _ _ _))
  | ((with_reducible refine' g_setL ?h89 ?i89 ?k89); (case' h89 => wtm_at "hp"); (case' i89 => exact ixE rfl (by wtm_at "ln")); (case' k89 => intro _ _ _))
  | ((with_reducible refine' g_gtup ?h93 ?e93 ?k93); (case' h93 => wtm_at "st"); (case' e93 => exact rfl))
  | with_reducible refine' g_gcons ?_
  | with_reducible refine' g_gnil ?_
  | with_reducible refine' g_par ?_
  | with_reducible refine' g_kPar ?_
  | with_reducible refine' g_meth ?_
  | with_reducible refine' g_bm ?_
  | with_reducible refine' g_bm0 ?_
  | with_reducible refine' g_raise ?_
  | with_reducible refine' g_for ?_
  | with_reducible refine' g_iR1 ?_
  | with_reducible refine' g_iR2 ?_
  | with_reducible refine' g_iL ?_
  | with_reducible refine' g_lc ?_
  | with_reducible refine' g_retN ?_
  | with_reducible refine' g_no (b := false) rfl ?_
  | with_reducible refine' g_yes (b := true) rfl ?_)
local macro_rules | `(tactic| wtm_at "go") => `(tactic| repeat (wtm_at "g1"))
local macro_rules | `(tactic| wtm_at "gs") => `(tactic| repeat ((fail_if_success (with_reducible refine' g_ifE ?_)); wtm_at "g1"))
local macro_rules | `(tactic| wtm_at "gi") => `(tactic| repeat ((fail_if_success (with_reducible refine' g_if ?_)); wtm_at "g1"))
local macro_rules | `(tactic| wtm_at "gr") => `(tactic| repeat ((fail_if_success (with_reducible refine' g_ret ?_)); wtm_at "g1"))
local macro_rules | `(tactic| wtm_at "gq") => `(tactic| repeat ((fail_if_success (with_reducible refine' g_asg ?_)); wtm_at "g1"))
/-! ### what something tells, or the word of its refusal -/
theorem Takes.len {X : Cx} {W : WX} (tk : Takes X W) : Takes X (fun cls d σ H => σ.length = X.N.length → W cls d σ H) := fun u s' ⟨a, B, sI, pins, σ, H, cls, d, e, I, nb, up, sky, na, os, ag, w⟩ =>
  tk u s' ⟨a, B, sI, pins, σ, H, cls, d, e, I, nb, up, sky, na, os, ag, w I.len⟩
section
variable {P : Program} {w : World} {K : PySem.W.Frag} {mg : Str → Option Value} {base : Heap}
def TKind (T : Tx K mg) : (XK → Hp → VK → Prop) → Hp → VK → Prop := fun tl H Q =>
  tl (fun cls d H' => ∃ r : Rf, cls = .ref (r.at T) ∧ d = none ∧ ∀ H'', Mx [] H' H'' → Q (.str r.word) H'') H (fun v H' => Q v H')
theorem Rf.kit (T : Tx K mg) : ∀ r r' : Rf, PySem.W.kitOne K (.ref (r.at T)) (.ref (r'.at T)) = some (decide (r = r'))
  | .down, .down => T.kt_Down_Down
  | .down, .up => T.kt_Down_Up
  | .down, .amount => T.kt_Down_BadAmount
  | .down, .code => T.kt_Down_BadCode
  | .down, .short => T.kt_Down_Short
  | .down, .bank => T.kt_Down_NoBank
  | .down, .number => T.kt_Down_BadNumber
  | .down, .meter => T.kt_Down_NoMeter
  | .up, .down => T.kt_Up_Down
  | .up, .up => T.kt_Up_Up
  | .up, .amount => T.kt_Up_BadAmount
  | .up, .code => T.kt_Up_BadCode
  | .up, .short => T.kt_Up_Short
  | .up, .bank => T.kt_Up_NoBank
  | .up, .number => T.kt_Up_BadNumber
  | .up, .meter => T.kt_Up_NoMeter
  | .amount, .down => T.kt_BadAmount_Down
  | .amount, .up => T.kt_BadAmount_Up
  | .amount, .amount => T.kt_BadAmount_BadAmount
  | .amount, .code => T.kt_BadAmount_BadCode
  | .amount, .short => T.kt_BadAmount_Short
  | .amount, .bank => T.kt_BadAmount_NoBank
  | .amount, .number => T.kt_BadAmount_BadNumber
  | .amount, .meter => T.kt_BadAmount_NoMeter
  | .code, .down => T.kt_BadCode_Down
  | .code, .up => T.kt_BadCode_Up
  | .code, .amount => T.kt_BadCode_BadAmount
  | .code, .code => T.kt_BadCode_BadCode
  | .code, .short => T.kt_BadCode_Short
  | .code, .bank => T.kt_BadCode_NoBank
  | .code, .number => T.kt_BadCode_BadNumber
  | .code, .meter => T.kt_BadCode_NoMeter
  | .short, .down => T.kt_Short_Down
  | .short, .up => T.kt_Short_Up
  | .short, .amount => T.kt_Short_BadAmount
  | .short, .code => T.kt_Short_BadCode
  | .short, .short => T.kt_Short_Short
  | .short, .bank => T.kt_Short_NoBank
  | .short, .number => T.kt_Short_BadNumber
  | .short, .meter => T.kt_Short_NoMeter
  | .bank, .down => T.kt_NoBank_Down
  | .bank, .up => T.kt_NoBank_Up
  | .bank, .amount => T.kt_NoBank_BadAmount
  | .bank, .code => T.kt_NoBank_BadCode
  | .bank, .short => T.kt_NoBank_Short
  | .bank, .bank => T.kt_NoBank_NoBank
  | .bank, .number => T.kt_NoBank_BadNumber
  | .bank, .meter => T.kt_NoBank_NoMeter
  | .number, .down => T.kt_BadNumber_Down
  | .number, .up => T.kt_BadNumber_Up
  | .number, .amount => T.kt_BadNumber_BadAmount
  | .number, .code => T.kt_BadNumber_BadCode
  | .number, .short => T.kt_BadNumber_Short
  | .number, .bank => T.kt_BadNumber_NoBank
  | .number, .number => T.kt_BadNumber_BadNumber
  | .number, .meter => T.kt_BadNumber_NoMeter
  | .meter, .down => T.kt_NoMeter_Down
  | .meter, .up => T.kt_NoMeter_Up
  | .meter, .amount => T.kt_NoMeter_BadAmount
  | .meter, .code => T.kt_NoMeter_BadCode
  | .meter, .short => T.kt_NoMeter_Short
  | .meter, .bank => T.kt_NoMeter_NoBank
  | .meter, .number => T.kt_NoMeter_BadNumber
  | .meter, .meter => T.kt_NoMeter_NoMeter
theorem Rf.exi (T : Tx K mg) (r : Rf) : ExI K (r.at T) T.E_FrankError := by
  cases r
  · exact T.i_Down
  · exact T.i_Up
  · exact T.i_BadAmount
  · exact T.i_BadCode
  · exact T.i_Short
  · exact T.i_NoBank
  · exact T.i_BadNumber
  · exact T.i_NoMeter
theorem g_isR (T : Tx K mg) {r r' : Rf} {a : Addr} {H : Hp} {Q : VK} (k : Q (.bl (decide (r = r'))) H) : rIsX K (.ref (r.at T)) none a [.ref a, .ref (r'.at T)] H Q := g_isX (r.exi T).c (r.kit T r') k
def Rf.bits (r : Rf) : List Bool := [decide (r = .bank), decide (r = .number), decide (r = .amount), decide (r = .code), decide (r = .short), decide (r = .down), decide (r = .up), decide (r = .meter)]
def Rf.pos : Rf → Nat
  | .bank => 0
  | .number => 1
  | .amount => 2
  | .code => 3
  | .short => 4
  | .down => 5
  | .up => 6
  | .meter => 7
theorem kind_gives {X : Cx} (T : Tx X.K X.mg) {cdv : Value} {q : Str} (hr : Room 2 X.A) : LamX.GivesTo X N__law_kind "_law_kind" (defScope s__law_kind) T.f__law_kind.a cdv (defBody s__law_kind) "_law_work" q (TKind T) := by
  intro f c' s H Q tl act hc h
  have hu65 : (X.A.deeper (envOfC "_law_kind" (defScope s__law_kind) s.heap.objs.size T.f__law_kind.a cdv)).units + 65 < cLine := Room.units65 (hr.deeper _)
  have hgl : Gl (cxOf C8.CX0 X.prog X.w X.K X.mg X.base N__law_kind "_law_kind" (defScope s__law_kind) T.f__law_kind.a cdv X.A X.stack s H C8.E0).nox "FrankError" := rfl
  refine ⟨_, pss_one (ps_try_as (X := (cxOf C8.CX0 X.prog X.w X.K X.mg X.base N__law_kind "_law_kind" (defScope s__law_kind) T.f__law_kind.a cdv X.A X.stack s H C8.E0).nox) (c := .ref T.E_FrankError) (i := 1)
      (tb := fun W D σ H => ∃ Ech : XK, (∀ cls d σ' H', Ech cls d H' → σ'.length = 4 → W cls d σ' H') ∧ σ[0]? = some (some (.ref f)) ∧ H c' = some (LamX.CodeO c' q) ∧ tl Ech H D.rt)
      rfl rfl sc__law_kind.nd rfl rfl ⟨hgl, rfl, .inl T.x_FrankError.g⟩ LamX.takes0 (fun W pn xe tk _ => ?_) (fun a oe cls d pn hz hf => (pss_cons (ps_set (i := 2) sc__law_kind.nd rfl (Or.inl rfl) (pe_lst (pa_cons (pe_callB (cIsX X.K hz hf) (by rfl) T.n_isinstance (by decide +kernel) (pa_cons (pv 1) (pa_cons (pe_glob (v := .ref T.E_NoBank) rfl T.x_NoBank.g rfl) pa_nil))) (pa_cons (pe_callB (cIsX X.K hz hf) (by rfl) T.n_isinstance (by decide +kernel) (pa_cons (pv 1) (pa_cons (pe_glob (v := .ref T.E_BadNumber) rfl T.x_BadNumber.g rfl) pa_nil))) (pa_cons (pe_callB (cIsX X.K hz hf) (by rfl) T.n_isinstance (by decide +kernel) (pa_cons (pv 1) (pa_cons (pe_glob (v := .ref T.E_BadAmount) rfl T.x_BadAmount.g rfl) pa_nil))) (pa_cons (pe_callB (cIsX X.K hz hf) (by rfl) T.n_isinstance (by decide +kernel) (pa_cons (pv 1) (pa_cons (pe_glob (v := .ref T.E_BadCode) rfl T.x_BadCode.g rfl) pa_nil))) pa_nil))))))
      (pss_cons (ps_set (i := 2) sc__law_kind.nd rfl (Or.inl rfl) (pe_op op_cat (pv 2) (pe_lst (pa_cons (pe_callB (cIsX X.K hz hf) (by rfl) T.n_isinstance (by decide +kernel) (pa_cons (pv 1) (pa_cons (pe_glob (v := .ref T.E_Short) rfl T.x_Short.g rfl) pa_nil))) (pa_cons (pe_callB (cIsX X.K hz hf) (by rfl) T.n_isinstance (by decide +kernel) (pa_cons (pv 1) (pa_cons (pe_glob (v := .ref T.E_Down) rfl T.x_Down.g rfl) pa_nil))) (pa_cons (pe_callB (cIsX X.K hz hf) (by rfl) T.n_isinstance (by decide +kernel) (pa_cons (pv 1) (pa_cons (pe_glob (v := .ref T.E_Up) rfl T.x_Up.g rfl) pa_nil))) (pa_cons (pe_callB (cIsX X.K hz hf) (by rfl) T.n_isinstance (by decide +kernel) (pa_cons (pv 1) (pa_cons (pe_glob (v := .ref T.E_NoMeter) rfl T.x_NoMeter.g rfl) pa_nil))) pa_nil)))))))
      (pss_cons (ps_set (i := 3) sc__law_kind.nd rfl (Or.inl rfl) (pe_lst (pa_cons pe_str (pa_cons pe_str (pa_cons pe_str (pa_cons pe_str (pa_cons pe_str (pa_cons pe_str (pa_cons pe_str (pa_cons pe_str pa_nil))))))))))
      (pss_cons (ps_if (PW.pt (pw_or (pt_cmpR op_ne (bmK X.K PySem.F.plainAttrs_list PySem.F.slot_list_count PySem.F.type_list_count (mtCountF X.K) (pv 2) (pa_cons pe_bl pa_nil)) pe_int (by first | exact nomark _ | rfl)) (pw_or1 (pt_not (pt_val (pe_callB (cIsX X.K hz hf) (by rfl) T.n_isinstance (by decide +kernel) (pa_cons (pv 1) (pa_cons (pe_bltn (v := .ty "ValueError") (by rfl) T.n_ValueError (by decide +kernel) rfl) pa_nil)))))))) (pss_one (ps_ret pe_str)) pss_nil)
      (pss_one (ps_ret (pe_ix (ixL X.K) (pv 3) (bmK X.K PySem.F.plainAttrs_list PySem.F.slot_list_index PySem.F.type_list_index (mtIndexD X.K hu65) (pv 2) (pa_cons pe_bl pa_nil)) (fun _ _ => rfl)))))))))), ?_⟩
  · refine ⟨fun pins s' σ H' D I h' => ?_⟩
    obtain ⟨Ech, hW, h1, h2, h3⟩ := h'
    exact (pss_one (ps_ret (act _ pn xe Ech _ _ (Takes.len tk) hW))).run pins s' σ H' D I ⟨h1, h2, h3⟩
  · refine ⟨fun cls d H' => ∃ r : Rf, cls = .ref (r.at T) ∧ d = none ∧ ∀ H'', Mx [] H' H'' → Q (.str r.word) H'', fun cls d σ' H' ⟨r, e1, e2, k⟩ hl => ?_, rfl, hc, h⟩
    subst e1 e2
    refine ⟨true, (r.exi T).exm T.x_FrankError T.hd_FrankError, fun _ a na => ?_, fun z => by cases z⟩
    match σ', hl with
    | [x0, x1, x2, x3], _ =>
      wtm_at "go"
      refine g_isR T (r' := .bank) ?_
      wtm_at "go"
      refine g_isR T (r' := .number) ?_
      wtm_at "go"
      refine g_isR T (r' := .amount) ?_
      wtm_at "go"
      refine g_isR T (r' := .code) ?_
      wtm_at "go"
      rename_i l1 H1 n1 m1 e1
      refine g_isR T (r' := .short) ?_
      wtm_at "go"
      refine g_isR T (r' := .down) ?_
      wtm_at "go"
      refine g_isR T (r' := .up) ?_
      wtm_at "go"
      refine g_isR T (r' := .meter) ?_
      wtm_at "go"
      rename_i l2 H2 n2 m2 e2 l3 H3 n3 m3 e3 l4 H4 n4 m4 e4
      have e3' : H4 l3 = some (.lst (r.bits.map V.bl)) := m4.get0 e3
      have mm : Mx [] H' H4 := ((m1.trans m2).trans m3).trans m4
      refine g_cntB (SqL.of e3') (n := 1) (by cases r <;> rfl) ?_
      wtm_at "go"
      refine g_no (by decide) ?_
      wtm_at "go"
      refine g_isXt (r.exi T).c (r.exi T).ve ?_
      wtm_at "go"
      refine g_no (by decide) ?_
      wtm_at "go"
      refine g_ixB (j := r.pos) (SqL.of e3') (by cases r <;> rfl) (fun m hm => ?_) ?_
      · have : r.pos < 8 := by cases r <;> decide
        match m, hm with
        | 0, hm => revert hm; cases r <;> decide
        | 1, hm => revert hm; cases r <;> decide
        | 2, hm => revert hm; cases r <;> decide
        | 3, hm => revert hm; cases r <;> decide
        | 4, hm => revert hm; cases r <;> decide
        | 5, hm => revert hm; cases r <;> decide
        | 6, hm => revert hm; cases r <;> decide
        | m + 7, hm => omega
      · refine g_ixL (v := .str r.word) (SqL.of e4) (by cases r <;> exact rfl) ?_
        exact k _ mm
end
end Fk
namespace Fk
open PySem PySem.Spec PyProof.Rows L2
local macro_rules | `(tactic| wtm_at "ln") => `(tactic| first
  | omega
  | (simp only [List.length_cons, List.length_nil, List.length_map, List.length_append, List.length_replicate, List.length_take, List.length_drop, List.length_set]; omega)
  | (with_unfolding_all exact (by decide)))
local macro_rules | `(tactic| wtm_at "ar") => `(tactic| first
  | ((with_reducible show CMulW _ _); (refine' mulS ?_ ?_ <;> omega))
  | ((with_reducible show CDivW _ _); (refine' divS ?_ ?_ <;> omega))
  | ((with_reducible show CPow _ _); exact ⟨by decide, by decide, by decide⟩)
  | (show (0 : Int) < _; omega)
  | (with_unfolding_all exact (by decide)))
local macro_rules | `(tactic| wtm_at "at") => `(tactic| first
  | assumption
  | (refine' cl_atE ?e80 ?h80; (case' e80 => first | exact rfl | assumption); (case' h80 => wtm_at "ln"))
  | exact rfl)
local macro_rules | `(tactic| wtm_at "fr") => `(tactic| first
  | assumption
  | ((with_reducible refine' Mx.free0 ?m99 ?h99); (case' h99 => assumption); (case' m99 => wtm_at "mo")))
local macro_rules | `(tactic| wtm_at "hp") => `(tactic| first
  | assumption
  | ((with_reducible refine' Mx.get0 ?m1 ?h1); (case' m1 => assumption); (case' h1 => wtm_at "hp"))
  | ((with_reducible refine' Mx.get ?m2 ?n2 ?h2); (case' m2 => assumption); (case' n2 => wtm_at "nin"); (case' h2 => wtm_at "hp")))
local macro_rules | `(tactic| wtm_at "sl") => `(tactic| first
  | assumption
  | ((with_reducible refine' Mx.sqL0 ?m96 ?h96); (case' h96 => assumption); (case' m96 => wtm_at "mo"))
  | (refine' SqL.of ?h3; (case' h3 => wtm_at "hp"))
  | ((with_reducible refine' Mx.sqL0 ?m4 ?h4); (case' m4 => assumption); (case' h4 => wtm_at "sl"))
  | ((with_reducible refine' Mx.sqL ?m5 ?n5 ?h5); (case' m5 => assumption); (case' n5 => wtm_at "nin"); (case' h5 => wtm_at "sl")))
local macro_rules | `(tactic| wtm_at "st") => `(tactic| first
  | assumption
  | ((with_reducible refine' Mx.sqT0 ?m97 ?h97); (case' h97 => assumption); (case' m97 => wtm_at "mo"))
  | (refine' SqT.of ?h6; (case' h6 => wtm_at "hp"))
  | ((with_reducible refine' Mx.sqT0 ?m7 ?h7); (case' m7 => assumption); (case' h7 => wtm_at "st"))
  | ((with_reducible refine' Mx.sqT ?m8 ?n8 ?h8); (case' m8 => assumption); (case' n8 => wtm_at "nin"); (case' h8 => wtm_at "st")))
local macro_rules | `(tactic| wtm_at "mx") => `(tactic| first
  | assumption
  | exact Mx.refl
  | ((with_reducible refine' Mx.of0 ?h9); (case' h9 => assumption))
  | ((with_reducible refine' Mx.trans ?h10 ?m10); (case' m10 => first | assumption | ((with_reducible refine' Mx.of0 ?q10); (case' q10 => assumption))); (case' h10 => wtm_at "mx")))
local macro_rules | `(tactic| wtm_at "mo") => `(tactic| first
  | wtm_at "mx"
  | ((with_reducible refine' Mx.own ?m90 ?f90 ?k90); (case' k90 => assumption); (case' f90 => wtm_at "fr"); (case' m90 => wtm_at "mo"))
  | ((with_reducible refine' Mx.trans ?h91 ?m91); (case' m91 => first | assumption | ((with_reducible refine' Mx.of0 ?q91); (case' q91 => assumption))); (case' h91 => wtm_at "mo")))
local macro_rules | `(tactic| wtm_at "ne") => `(tactic| first
  | assumption
  | exact Ne.symm (by assumption)
  | ((with_reducible refine' ne_of_none ?x94 ?y94); (case' y94 => assumption); (case' x94 => wtm_at "hp"))
  | ((with_reducible refine' Ne.symm (ne_of_none ?x95 ?y95)); (case' y95 => assumption); (case' x95 => wtm_at "hp")))
local macro_rules | `(tactic| wtm_at "nin") => `(tactic| first
  | assumption
  | exact List.not_mem_nil
  | ((with_reducible refine' List.not_mem_cons_of_ne_of_not_mem ?h98 ?t98); (case' h98 => wtm_at "ne"); (case' t98 => wtm_at "nin")))
local macro_rules | `(tactic| wtm_at "g1") => `(tactic| first
  | ((with_reducible refine' g_var ?h11 ?k11); (case' h11 => exact rfl))
  | with_reducible refine' g_c ?_
  | with_reducible refine' g_op ?_
  | with_reducible refine' g_I0 ?_
  | ((with_reducible refine' g_I ?c12 ?k12); (case' c12 => wtm_at "ar"))
  | with_reducible refine' g_cons ?_
  | with_reducible refine' g_nil ?_
  | with_reducible refine' g_seq ?_
  | with_reducible refine' g_asg ?_
  | with_reducible refine' g_name ?_
  | with_reducible refine' g_ret ?_
  | with_reducible refine' g_if ?_
  | with_reducible refine' g_test ?_
  | with_reducible refine' g_tB ?_
  | with_reducible refine' g_bl ?_
  | ((with_reducible refine' g_eq ?h13 ?k13); (case' h13 => exact rfl))
  | ((with_reducible refine' g_ne ?h14 ?k14); (case' h14 => exact rfl))
  | with_reducible refine' g_CB ?_
  | with_reducible refine' g_call ?_
  | with_reducible refine' g_drop ?_
  | with_reducible refine' g_next ?_
  | with_reducible refine' g_not ?_
  | with_reducible refine' g_and ?_
  | with_reducible refine' g_or ?_
  | with_reducible refine' g_un ?_
  | with_reducible refine' g_U ?_
  | with_reducible refine' g_tup ?_
  | with_reducible refine' g_lst ?_
  | ((with_reducible refine' g_kNew ?h15 ?k15); (case' h15 => wtm_at "ln"); (case' k15 => intro _ _ _ _ _))
  | ((with_reducible refine' g_ixL ?h16 ?a16 ?k16); (case' h16 => wtm_at "sl"); (case' a16 => wtm_at "at"))
  | ((with_reducible refine' g_ixT ?h17 ?a17 ?k17); (case' h17 => wtm_at "st"); (case' a17 => wtm_at "at"))
  | with_reducible refine' g_slice ?_
  | with_reducible refine' g_part ?_
  | with_reducible refine' g_kPart ?_
  | with_reducible refine' g_noPart ?_
  | ((with_reducible refine' g_slL ?h18 ?k18); (case' h18 => wtm_at "sl"); (case' k18 => intro _ _ _ _ _))
  | ((with_reducible refine' g_cat ?h119 ?h219 ?l19 ?k19); (case' h119 => wtm_at "hp"); (case' h219 => wtm_at "hp"); (case' l19 => wtm_at "ln"); (case' k19 => intro _ _ _ _ _))
  | ((with_reducible refine' g_rep ?h120 ?h220 ?h320 ?l20 ?k20); (case' h120 => wtm_at "hp"); (case' h220 => wtm_at "ln"); (case' h320 => wtm_at "ln"); (case' l20 => wtm_at "ln"); (case' k20 => intro _ _ _ _ _))
  | ((with_reducible refine' g_append ?h21 ?l21 ?k21); (case' h21 => wtm_at "hp"); (case' l21 => wtm_at "ln"); (case' k21 => intro _ _ _))
  | ((with_reducible refine' g_kBM ?h22 ?k22); (case' h22 => wtm_at "sl"))
  | ((with_reducible refine' g_kBM0 ?h23 ?k23); (case' h23 => wtm_at "sl"))
  | ((with_reducible refine' g_kL ?h24 ?k24); (case' h24 => wtm_at "sl"))
  | ((with_reducible refine' g_kR1 ?h125 ?h225 ?k25); (case' h125 => wtm_at "ln"); (case' h225 => wtm_at "ln"))
  | ((with_reducible refine' g_kR2 ?h126 ?h226 ?h326 ?h426 ?k26); (case' h126 => wtm_at "ln"); (case' h226 => wtm_at "ln"); (case' h326 => wtm_at "ln"); (case' h426 => wtm_at "ln"))
  | ((with_reducible refine' g_lenL ?h27 ?k27); (case' h27 => wtm_at "sl"))
  | ((with_reducible refine' g_lenT ?h28 ?k28); (case' h28 => wtm_at "st"))
  | ((with_reducible refine' g_listL ?h29 ?k29); (case' h29 => wtm_at "sl"); (case' k29 => intro _ _ _ _ _))
  | ((with_reducible refine' g_tupleL ?h30 ?k30); (case' h30 => wtm_at "sl"); (case' k30 => intro _ _ _ _ _))
  | with_reducible refine' g_max ?_
  | with_reducible refine' g_min ?_
  | with_reducible refine' g_intB ?_
  | with_reducible refine' g_fld ?_
  | with_reducible refine' g_put ?_
  | with_reducible refine' g_dget ?_
  | with_reducible refine' g_isN ?_
  | with_reducible refine' g_notN ?_
  | with_reducible refine' g_ifE ?_
  | with_reducible refine' g_andV ?_
  | with_reducible refine' g_orV ?_
  | with_reducible refine' g_notV ?_
  | with_reducible refine' g_kIf ?_
  | with_reducible refine' g_chain ?_
  | with_reducible refine' g_kCh ?_
  | with_reducible refine' g_sub ?_
  | ((with_reducible refine' g_setI ?h92 ?e92 ?j92 ?k92); (case' h92 => wtm_at "hp"); (case' e92 => first | exact rfl | assumption); (case' j92 => wtm_at "ln"); (case' k92 => intro _ _ _))
  | ((with_reducible refine' g_setL ?h89 ?i89 ?k89); (case' h89 => wtm_at "hp"); (case' i89 => exact ixE rfl (by wtm_at "ln")); (case' k89 => intro _ _ _))
  | ((with_reducible refine' g_gtup ?h93 ?e93 ?k93); (case' h93 => wtm_at "st"); (case' e93 => exact rfl))
  | with_reducible refine' g_gcons ?_
  | with_reducible refine' g_gnil ?_
  | with_reducible refine' g_par ?_
  | with_reducible refine' g_kPar ?_
  | with_reducible refine' g_meth ?_
  | with_reducible refine' g_bm ?_
  | with_reducible refine' g_bm0 ?_
  | with_reducible refine' g_raise ?_
  | with_reducible refine' g_for ?_
  | with_reducible refine' g_iR1 ?_
  | with_reducible refine' g_iR2 ?_
  | with_reducible refine' g_iL ?_
  | with_reducible refine' g_lc ?_
  | with_reducible refine' g_retN ?_
  | with_reducible refine' g_no (b := false) rfl ?_
  | with_reducible refine' g_yes (b := true) rfl ?_)
local macro_rules | `(tactic| wtm_at "go") => `(tactic| repeat (wtm_at "g1"))
local macro_rules | `(tactic| wtm_at "gs") => `(tactic| repeat ((fail_if_success (with_reducible refine' g_ifE ?_)); wtm_at "g1"))
local macro_rules | `(tactic| wtm_at "gi") => `(tactic| repeat ((fail_if_success (with_reducible refine' g_if ?_)); wtm_at "g1"))
local macro_rules | `(tactic| wtm_at "gr") => `(tactic| repeat ((fail_if_success (with_reducible refine' g_ret ?_)); wtm_at "g1"))
local macro_rules | `(tactic| wtm_at "gq") => `(tactic| repeat ((fail_if_success (with_reducible refine' g_asg ?_)); wtm_at "g1"))
/-! ### the law -/
section
variable {K : PySem.W.Frag} {H H1 H0 : Hp}
theorem extn_at (e : LamX.ExtN H H1) {a : Addr} {o : HO} (h : H a = some o) (n : ∀ ps, o ≠ .tbl ps) : H1 a = some o := e a o h n
theorem extn_sqL (e : LamX.ExtN H H1) {a : Addr} {xs : List V} (h : SqL K H a xs) : SqL K H1 a xs := by
  rcases h with (h | ⟨o, h⟩) | h
  · exact .inl (.inl (e _ _ h fun _ z => nomatch z))
  · exact .inl (.inr ⟨o, e _ _ h fun _ z => nomatch z⟩)
  · exact .inr h
theorem extn_sqT (e : LamX.ExtN H H1) {a : Addr} {xs : List V} (h : SqT K H a xs) : SqT K H1 a xs := by
  rcases h with (h | ⟨o, h⟩) | h
  · exact .inl (.inl (e _ _ h fun _ z => nomatch z))
  · exact .inl (.inr ⟨o, e _ _ h fun _ z => nomatch z⟩)
  · exact .inr h
mutual
theorem extn_dp (e : LamX.ExtN H H1) : ∀ {v : V} {d : PyData}, Dp K H v d → Dp K H1 v d
  | _, _, .non => .non
  | _, _, .bl b => .bl b
  | _, _, .int i => .int i
  | _, _, .str x => .str x
  | _, _, .lst h a => .lst (extn_sqL e h) (extn_dpA e a)
  | _, _, .tup h a => .tup (extn_sqT e h) (extn_dpA e a)
theorem extn_dpA (e : LamX.ExtN H H1) : ∀ {vs : List V} {ds : List PyData}, DpAll K H vs ds → DpAll K H1 vs ds
  | _, _, .nil => .nil
  | _, _, .cons h r => .cons (extn_dp e h) (extn_dpA e r)
end
theorem MetAt.extn {C p pm pp : Addr} {μ : Mt} (M : MetAt K C H p pm pp μ) (e : LamX.ExtN H H1) : MetAt K C H1 p pm pp μ := by
  obtain ⟨⟨dx, ob⟩, me, ⟨vs, pr, dp⟩, ne⟩ := M
  exact ⟨⟨dx, e _ _ ob fun _ z => nomatch z⟩, e _ _ me (fun _ z => nomatch z), ⟨vs, e _ _ pr (fun _ z => nomatch z), extn_dpA e dp⟩, ne⟩
theorem LmAt.extn {q qc qs : Addr} {μ : Mt} (M : LmAt K H q qc qs μ) (e : LamX.ExtN H H1) : LmAt K H1 q qc qs μ := by
  obtain ⟨ob, me, ⟨vs, pr, dp⟩, ne⟩ := M
  exact ⟨e _ _ ob (fun _ z => nomatch z), e _ _ me (fun _ z => nomatch z), ⟨vs, e _ _ pr (fun _ z => nomatch z), extn_dpA e dp⟩, ne⟩
theorem Pair.extn {C p pm pp q qc qs : Addr} {μ : Mt} (R : Pair K C H p pm pp q qc qs μ) (e : LamX.ExtN H H1) : Pair K C H1 p pm pp q qc qs μ := ⟨R.m.extn e, R.l.extn e, R.ap⟩
theorem DdAt.extn {t : Addr} {d : Dd} (h : DdAt H t d) (e : LamX.ExtN H H1) : DdAt H1 t d := by
  cases d with
  | stamp a => exact e _ _ h fun _ z => nomatch z
  | back a => exact e _ _ h fun _ z => nomatch z
  | up => exact e _ _ h fun _ z => nomatch z
  | top z => obtain ⟨c, h1, h2⟩ := h; exact ⟨c, e _ _ h1 (fun _ z => nomatch z), e _ _ h2 fun _ z => nomatch z⟩
/-- a heap without tables -/
def NoTbl (H0 : Hp) : Prop := ∀ b o, H0 b = some o → ∀ ps, o ≠ .tbl ps
theorem StAt.extn {r : Addr} (s : StAt K H0 H r) (n : NoTbl H0) (e : LamX.ExtN H H1) : StAt K H0 H1 r := by
  obtain ⟨⟨a, ns, i, m, l, h, q⟩, fr, mx⟩ := s
  exact ⟨⟨a, ns, i, m, l, e _ _ h (fun _ z => nomatch z), q⟩, fr, fun b o hb _ => e b o (mx.get0 hb) (n b o hb)⟩
/-- drawing asks for the script alone -/
theorem StAt.cut {r : Addr} (s : StAt K H H1 r) : ∃ H0, (∀ x, H x = none → H0 x = none) ∧ NoTbl H0 ∧ StAt K H0 H1 r := by
  obtain ⟨⟨a, ns, i, m, l, h, hS, q⟩, fr, mx⟩ := s
  have hnt : (∃ o, H a = some o ∧ (∀ ps, o ≠ .tbl ps) ∧ SqL K (fun b => if b = a then some o else none) a (ns.map V.int)) ∨ SqL K (fun _ => none) a (ns.map V.int) := by
    rcases hS with (h | ⟨o, h⟩) | h
    · exact .inl ⟨_, h, (fun _ z => nomatch z), .inl (.inl (if_pos rfl))⟩
    · exact .inl ⟨_, h, (fun _ z => nomatch z), .inl (.inr ⟨o, if_pos rfl⟩)⟩
    · exact .inr (.inr h)
  rcases hnt with ⟨o, ho, no, hS'⟩ | hS'
  · refine ⟨fun b => if b = a then some o else none, fun x hx => if_neg (fun z => by rw [z, ho] at hx; cases hx), fun b o' hb => ?_, ⟨a, ns, i, m, l, h, hS', q⟩, if_neg (fun z => by rw [z, ho] at fr; cases fr), fun b o' hb _ => ?_⟩
    · have hb : (if b = a then some o else none) = some o' := hb
      split at hb
      · cases hb; exact no
      · cases hb
    · have hb : (if b = a then some o else none) = some o' := hb
      split at hb
      · rename_i z
        cases hb
        rw [z]
        exact mx.get0 ho
      · cases hb
  · exact ⟨fun _ => none, fun _ _ => rfl, fun _ _ z => (nomatch z), ⟨a, ns, i, m, l, h, hS', q⟩, rfl, fun _ _ z => (nomatch z)⟩
/-- what is written is no table, no code object -/
def NoX (H : Hp) (S : List Addr) : Prop := ∀ x ∈ S, ∀ o, H x = some o → (∀ ps, o ≠ .tbl ps) ∧ ∀ f, o ≠ .ext f
theorem Tabs.mx {T : List (Addr × Str)} {S : List Addr} (t : LamX.Tabs T H) (m : Mx S H H1) (n : NoX H S) : LamX.Tabs T H1 := fun p hp => by
  obtain ⟨ps, h1, h2, h3⟩ := t p hp
  refine ⟨ps, m _ _ h1 fun z => (n _ z _ h1).1 ps rfl, h2, fun pos cv hc => ?_⟩
  obtain ⟨c, e1, e2⟩ := h3 pos cv hc
  exact ⟨c, e1, m _ _ e2 fun z => (n _ z _ e2).2 _ rfl⟩
theorem Tabs.mx0 {T : List (Addr × Str)} (t : LamX.Tabs T H) (m : Mx [] H H1) : LamX.Tabs T H1 := Tabs.mx t m fun _ z => by simp at z
theorem noX_lst {a : Addr} {xs : List V} (h : H a = some (.lst xs)) : ∀ o, H a = some o → (∀ ps, o ≠ .tbl ps) ∧ ∀ f, o ≠ .ext f := fun o e => by
  rw [h] at e; cases e; exact ⟨(fun _ z => nomatch z), (fun _ z => nomatch z)⟩
theorem noX_dK {a : Addr} {xs : List (Key × V)} (h : H a = some (.dK xs)) : ∀ o, H a = some o → (∀ ps, o ≠ .tbl ps) ∧ ∀ f, o ≠ .ext f := fun o e => by
  rw [h] at e; cases e; exact ⟨(fun _ z => nomatch z), (fun _ z => nomatch z)⟩
theorem noX_ins {a C dx : Addr} {fs : List (Str × V)} (h : H a = some (.ins C dx fs)) : ∀ o, H a = some o → (∀ ps, o ≠ .tbl ps) ∧ ∀ f, o ≠ .ext f := fun o e => by
  rw [h] at e; cases e; exact ⟨(fun _ z => nomatch z), (fun _ z => nomatch z)⟩
theorem StAt.nx {r : Addr} (s : StAt K H0 H r) : NoX H [r] := by
  obtain ⟨_, _, _, _, _, h, _⟩ := s.ex
  intro x hx
  simp at hx
  subst hx
  exact noX_lst h
theorem LmAt.nx {q qc qs : Addr} {μ : Mt} (M : LmAt K H q qc qs μ) : NoX H [q, qc, qs] := by
  obtain ⟨ob, ce, ⟨vs, st, dp⟩, ne⟩ := M
  intro x hx
  simp only [List.mem_cons, List.not_mem_nil, or_false] at hx
  rcases hx with rfl | rfl | rfl
  · exact noX_dK ob
  · exact noX_lst ce
  · exact noX_lst st
theorem MetAt.nx {C p pm pp : Addr} {μ : Mt} (M : MetAt K C H p pm pp μ) : NoX H [p, pm, pp] := by
  obtain ⟨⟨dx, ob⟩, me, ⟨vs, pr, dp⟩, ne⟩ := M
  intro x hx
  simp only [List.mem_cons, List.not_mem_nil, or_false] at hx
  rcases hx with rfl | rfl | rfl
  · exact noX_ins ob
  · exact noX_lst me
  · exact noX_lst pr
theorem LmAt.nt {q qc qs : Addr} {μ : Mt} (M : LmAt K H q qc qs μ) : NoTup H [q, qc, qs] := by
  obtain ⟨ob, ce, ⟨vs, st, dp⟩, ne⟩ := M
  exact (noTupD ob).cons ((noTup1 ce).cons (noTup1 st))
theorem MetAt.nt {C p pm pp : Addr} {μ : Mt} (M : MetAt K C H p pm pp μ) : NoTup H [p, pm, pp] := by
  obtain ⟨⟨dx, ob⟩, me, ⟨vs, pr, dp⟩, ne⟩ := M
  exact (noTupI ob).cons ((noTup1 me).cons (noTup1 pr))
theorem due_frz (μ : Mt) (d : Dd) (cut : Option Nat) : frz (dueM μ d cut).1 = true ∧ okD (dueM μ d cut).1 = true ∧ (dueM μ d cut).1.depth < 8 := by
  have hc : ∀ z : Cd, frz (cdD z) = true ∧ okD (cdD z) = true ∧ (cdD z).depth < 8 := fun z => ⟨rfl, rfl, by simp [cdD, PyData.depth, PyData.depthAll]⟩
  have h0 : frz PyData.none = true ∧ okD PyData.none = true ∧ PyData.none.depth < 8 := by decide +kernel
  have hb : ∀ b, frz (PyData.bool b) = true ∧ okD (PyData.bool b) = true ∧ (PyData.bool b).depth < 8 := by decide +kernel
  have hi : ∀ i, frz (PyData.int i) = true ∧ okD (PyData.int i) = true ∧ (PyData.int i).depth < 8 := fun i => ⟨rfl, rfl, by simp [PyData.depth]⟩
  have hs : ∀ s, frz (PyData.str s) = true ∧ okD (PyData.str s) = true ∧ (PyData.str s).depth < 8 := fun i => ⟨rfl, rfl, by simp [PyData.depth]⟩
  by_cases hd : d = .up
  · subst hd
    by_cases hu : μ.up = true
    · have e : dueM μ .up cut = (.str "Up", μ) := if_pos hu
      rw [e]
      exact hs _
    · cases eo : owed μ with
      | none =>
        have e : dueM μ .up cut = (.bool true, { μ with up := true }) := by simp [dueM, hu, eo]
        rw [e]
        exact hb _
      | some s =>
        by_cases h0' : cut = some 0
        · have e : dueM μ .up cut = (.none, μ) := by simp [dueM, hu, eo, h0']
          rw [e]
          exact h0
        · have e : dueM μ .up cut = (.bool true, { μ with stamps := μ.stamps ++ [s], up := true }) := by simp [dueM, hu, eo, h0']
          rw [e]
          exact hb _
  · cases hr : refR μ d with
    | some r => rw [dueM_ref hd hr]; exact hs _
    | none =>
      rw [dueM_run hd hr]
      show frz (if _ then _ else _) = true ∧ okD (if _ then _ else _) = true ∧ (if _ then _ else _ : PyData).depth < 8
      split
      · cases d with
        | stamp a => exact hi _
        | back a => exact hc _
        | top z => exact hi _
        | up => exact h0
      · exact h0
end
/-- _law_kind(lambda: ..) -/
theorem q_kind {X : Cx} {K : PySem.W.Frag} {mg : Str → Option Value} (T : Tx K mg) {c Pt : Addr} {k : Nat} {params : Arguments} {body : Expr} {scope : Scope} {t : XK → TE} {p lpos pos : Pos} (TB : LamX.TabB X.base X.mg c Pt) (hcode : X.env.code = .ref c) (hr : Room (k + 2) X.A)
    (L : LamX.LamS X.env.scope scope) (hdef : defaultsOf params X.env = ([], [])) (hbind : ∀ (q : Str) (cl : List (Str × Addr)) (pm cv ctv : Value), bindArgs (PySem.W.kla_fn "<lambda>" q params body scope cl pm cv ctv) ⟨[], []⟩ = pure [])
    (hbody : ∀ (A : Around) (outer : List Env) (s : Shared) (H : Hp) (E : XK) (f c' : Addr), Room k (A.deeper (LamX.lamEnv X scope s.heap.objs.size f c')) → PE (LamX.lamCx X A outer s H E scope f c') body (t E)) (hg : Gl X "_law_kind") (hK : X.K = K := by rfl) (hm : X.mg = mg := by rfl) :
    PE X (.Call (.Name "_law_kind" p) [.Lambda params body scope lpos] [] pos) (LamX.tLam [(Pt, X.env.qual ++ "<lambda>")] (TKind T) t) := by
  subst hK hm
  obtain ⟨oc, od, kV, doc, pm, an, cdv, ct, osl, hd, lk, hcd⟩ := T.f__law_kind.F.ex
  have hb := T.f__law_kind.b
  rw [hd] at lk hb
  exact LamX.pe_lamcall (k := k) (Ng := N__law_kind) hg T.f__law_kind.g T.f__law_kind.F.kp lk hcd hb sc__law_kind rfl (.inl rfl) (kind_gives T (hr.mono (by omega))) TB hcode (List.mem_singleton.mpr rfl) (fun p hp _ => by rw [List.mem_singleton.mp hp]) hr L hdef hbind hbody
end Fk
namespace Fk
open PySem PySem.Spec PyProof.Rows L2
local macro_rules | `(tactic| wtm_at "ln") => `(tactic| first
  | omega
  | (simp only [List.length_cons, List.length_nil, List.length_map, List.length_append, List.length_replicate, List.length_take, List.length_drop, List.length_set]; omega)
  | (with_unfolding_all exact (by decide)))
local macro_rules | `(tactic| wtm_at "ar") => `(tactic| first
  | ((with_reducible show CMulW _ _); (refine' mulS ?_ ?_ <;> omega))
  | ((with_reducible show CDivW _ _); (refine' divS ?_ ?_ <;> omega))
  | ((with_reducible show CPow _ _); exact ⟨by decide, by decide, by decide⟩)
  | (show (0 : Int) < _; omega)
  | (with_unfolding_all exact (by decide)))
local macro_rules | `(tactic| wtm_at "at") => `(tactic| first
  | assumption
  | (refine' cl_atE ?e80 ?h80; (case' e80 => first | exact rfl | assumption); (case' h80 => wtm_at "ln"))
  | exact rfl)
local macro_rules | `(tactic| wtm_at "fr") => `(tactic| first
  | assumption
  | ((with_reducible refine' Mx.free0 ?m99 ?h99); (case' h99 => assumption); (case' m99 => wtm_at "mo")))
local macro_rules | `(tactic| wtm_at "hp") => `(tactic| first
  | assumption
  | ((with_reducible refine' Mx.get0 ?m1 ?h1); (case' m1 => assumption); (case' h1 => wtm_at "hp"))
  | ((with_reducible refine' Mx.get ?m2 ?n2 ?h2); (case' m2 => assumption); (case' n2 => wtm_at "nin"); (case' h2 => wtm_at "hp")))
local macro_rules | `(tactic| wtm_at "sl") => `(tactic| first
  | assumption
  | ((with_reducible refine' Mx.sqL0 ?m96 ?h96); (case' h96 => assumption); (case' m96 => wtm_at "mo"))
  | (refine' SqL.of ?h3; (case' h3 => wtm_at "hp"))
  | ((with_reducible refine' Mx.sqL0 ?m4 ?h4); (case' m4 => assumption); (case' h4 => wtm_at "sl"))
  | ((with_reducible refine' Mx.sqL ?m5 ?n5 ?h5); (case' m5 => assumption); (case' n5 => wtm_at "nin"); (case' h5 => wtm_at "sl")))
local macro_rules | `(tactic| wtm_at "st") => `(tactic| first
  | assumption
  | ((with_reducible refine' Mx.sqT0 ?m97 ?h97); (case' h97 => assumption); (case' m97 => wtm_at "mo"))
  | (refine' SqT.of ?h6; (case' h6 => wtm_at "hp"))
  | ((with_reducible refine' Mx.sqT0 ?m7 ?h7); (case' m7 => assumption); (case' h7 => wtm_at "st"))
  | ((with_reducible refine' Mx.sqT ?m8 ?n8 ?h8); (case' m8 => assumption); (case' n8 => wtm_at "nin"); (case' h8 => wtm_at "st")))
local macro_rules | `(tactic| wtm_at "mx") => `(tactic| first
  | assumption
  | exact Mx.refl
  | ((with_reducible refine' Mx.of0 ?h9); (case' h9 => assumption))
  | ((with_reducible refine' Mx.trans ?h10 ?m10); (case' m10 => first | assumption | ((with_reducible refine' Mx.of0 ?q10); (case' q10 => assumption))); (case' h10 => wtm_at "mx")))
local macro_rules | `(tactic| wtm_at "mo") => `(tactic| first
  | wtm_at "mx"
  | ((with_reducible refine' Mx.own ?m90 ?f90 ?k90); (case' k90 => assumption); (case' f90 => wtm_at "fr"); (case' m90 => wtm_at "mo"))
  | ((with_reducible refine' Mx.trans ?h91 ?m91); (case' m91 => first | assumption | ((with_reducible refine' Mx.of0 ?q91); (case' q91 => assumption))); (case' h91 => wtm_at "mo")))
local macro_rules | `(tactic| wtm_at "ne") => `(tactic| first
  | assumption
  | exact Ne.symm (by assumption)
  | ((with_reducible refine' ne_of_none ?x94 ?y94); (case' y94 => assumption); (case' x94 => wtm_at "hp"))
  | ((with_reducible refine' Ne.symm (ne_of_none ?x95 ?y95)); (case' y95 => assumption); (case' x95 => wtm_at "hp")))
local macro_rules | `(tactic| wtm_at "nin") => `(tactic| first
  | assumption
  | exact List.not_mem_nil
  | ((with_reducible refine' List.not_mem_cons_of_ne_of_not_mem ?h98 ?t98); (case' h98 => wtm_at "ne"); (case' t98 => wtm_at "nin")))
local macro_rules | `(tactic| wtm_at "g1") => `(tactic| first
  | ((with_reducible refine' g_var ?h11 ?k11); (case' h11 => exact rfl))
  | with_reducible refine' g_c ?_
  | with_reducible refine' g_op ?_
  | with_reducible refine' g_I0 ?_
  | ((with_reducible refine' g_I ?c12 ?k12); (case' c12 => wtm_at "ar"))
  | with_reducible refine' g_cons ?_
  | with_reducible refine' g_nil ?_
  | with_reducible refine' g_seq ?_
  | with_reducible refine' g_asg ?_
  | with_reducible refine' g_name ?_
  | with_reducible refine' g_ret ?_
  | with_reducible refine' g_if ?_
  | with_reducible refine' g_test ?_
  | with_reducible refine' g_tB ?_
  | with_reducible refine' g_bl ?_
  | ((with_reducible refine' g_eq ?h13 ?k13); (case' h13 => exact rfl))
  | ((with_reducible refine' g_ne ?h14 ?k14); (case' h14 => exact rfl))
  | with_reducible refine' g_CB ?_
  | with_reducible refine' g_call ?_
  | with_reducible refine' g_drop ?_
  | with_reducible refine' g_next ?_
  | with_reducible refine' g_not ?_
  | with_reducible refine' g_and ?_
  | with_reducible refine' g_or ?_
  | with_reducible refine' g_un ?_
  | with_reducible refine' g_U ?_
  | with_reducible refine' g_tup ?_
  | with_reducible refine' g_lst ?_
  | ((with_reducible refine' g_kNew ?h15 ?k15); (case' h15 => wtm_at "ln"); (case' k15 => intro _ _ _ _ _))
  | ((with_reducible refine' g_ixL ?h16 ?a16 ?k16); (case' h16 => wtm_at "sl"); (case' a16 => wtm_at "at"))
  | ((with_reducible refine' g_ixT ?h17 ?a17 ?k17); (case' h17 => wtm_at "st"); (case' a17 => wtm_at "at"))
  | with_reducible refine' g_slice ?_
  | with_reducible refine' g_part ?_
  | with_reducible refine' g_kPart ?_
  | with_reducible refine' g_noPart ?_
  | ((with_reducible refine' g_slL ?h18 ?k18); (case' h18 => wtm_at "sl"); (case' k18 => intro _ _ _ _ _))
  | ((with_reducible refine' g_cat ?h119 ?h219 ?l19 ?k19); (case' h119 => wtm_at "hp"); (case' h219 => wtm_at "hp"); (case' l19 => wtm_at "ln"); (case' k19 => intro _ _ _ _ _))
  | ((with_reducible refine' g_rep ?h120 ?h220 ?h320 ?l20 ?k20); (case' h120 => wtm_at "hp"); (case' h220 => wtm_at "ln"); (case' h320 => wtm_at "ln"); (case' l20 => wtm_at "ln"); (case' k20 => intro _ _ _ _ _))
  | ((with_reducible refine' g_append ?h21 ?l21 ?k21); (case' h21 => wtm_at "hp"); (case' l21 => wtm_at "ln"); (case' k21 => intro _ _ _))
  | ((with_reducible refine' g_kBM ?h22 ?k22); (case' h22 => wtm_at "sl"))
  | ((with_reducible refine' g_kBM0 ?h23 ?k23); (case' h23 => wtm_at "sl"))
  | ((with_reducible refine' g_kL ?h24 ?k24); (case' h24 => wtm_at "sl"))
  | ((with_reducible refine' g_kR1 ?h125 ?h225 ?k25); (case' h125 => wtm_at "ln"); (case' h225 => wtm_at "ln"))
  | ((with_reducible refine' g_kR2 ?h126 ?h226 ?h326 ?h426 ?k26); (case' h126 => wtm_at "ln"); (case' h226 => wtm_at "ln"); (case' h326 => wtm_at "ln"); (case' h426 => wtm_at "ln"))
  | ((with_reducible refine' g_lenL ?h27 ?k27); (case' h27 => wtm_at "sl"))
  | ((with_reducible refine' g_lenT ?h28 ?k28); (case' h28 => wtm_at "st"))
  | ((with_reducible refine' g_listL ?h29 ?k29); (case' h29 => wtm_at "sl"); (case' k29 => intro _ _ _ _ _))
  | ((with_reducible refine' g_tupleL ?h30 ?k30); (case' h30 => wtm_at "sl"); (case' k30 => intro _ _ _ _ _))
  | with_reducible refine' g_max ?_
  | with_reducible refine' g_min ?_
  | with_reducible refine' g_intB ?_
  | with_reducible refine' g_fld ?_
  | with_reducible refine' g_put ?_
  | with_reducible refine' g_dget ?_
  | with_reducible refine' g_isN ?_
  | with_reducible refine' g_notN ?_
  | with_reducible refine' g_ifE ?_
  | with_reducible refine' g_andV ?_
  | with_reducible refine' g_orV ?_
  | with_reducible refine' g_notV ?_
  | with_reducible refine' g_kIf ?_
  | with_reducible refine' g_chain ?_
  | with_reducible refine' g_kCh ?_
  | with_reducible refine' g_sub ?_
  | ((with_reducible refine' g_setI ?h92 ?e92 ?j92 ?k92); (case' h92 => wtm_at "hp"); (case' e92 => first | exact rfl | assumption); (case' j92 => wtm_at "ln"); (case' k92 => intro _ _ _))
  | ((with_reducible refine' g_setL ?h89 ?i89 ?k89); (case' h89 => wtm_at "hp"); (case' i89 => exact ixE rfl (by wtm_at "ln")); (case' k89 => intro _ _ _))
  | ((with_reducible refine' g_gtup ?h93 ?e93 ?k93); (case' h93 => wtm_at "st"); (case' e93 => exact rfl))
  | with_reducible refine' g_gcons ?_
  | with_reducible refine' g_gnil ?_
  | with_reducible refine' g_par ?_
  | with_reducible refine' g_kPar ?_
  | with_reducible refine' g_meth ?_
  | with_reducible refine' g_bm ?_
  | with_reducible refine' g_bm0 ?_
  | with_reducible refine' g_raise ?_
  | with_reducible refine' g_for ?_
  | with_reducible refine' g_iR1 ?_
  | with_reducible refine' g_iR2 ?_
  | with_reducible refine' g_iL ?_
  | with_reducible refine' g_lc ?_
  | with_reducible refine' g_retN ?_
  | with_reducible refine' g_no (b := false) rfl ?_
  | with_reducible refine' g_yes (b := true) rfl ?_)
local macro_rules | `(tactic| wtm_at "go") => `(tactic| repeat (wtm_at "g1"))
local macro_rules | `(tactic| wtm_at "gs") => `(tactic| repeat ((fail_if_success (with_reducible refine' g_ifE ?_)); wtm_at "g1"))
local macro_rules | `(tactic| wtm_at "gi") => `(tactic| repeat ((fail_if_success (with_reducible refine' g_if ?_)); wtm_at "g1"))
local macro_rules | `(tactic| wtm_at "gr") => `(tactic| repeat ((fail_if_success (with_reducible refine' g_ret ?_)); wtm_at "g1"))
local macro_rules | `(tactic| wtm_at "gq") => `(tactic| repeat ((fail_if_success (with_reducible refine' g_asg ?_)); wtm_at "g1"))
/-! ### a meter and what is here: a side -/
structure Sd where
  p : Addr
  pm : Addr
  pp : Addr
  q : Addr
  qc : Addr
  qs : Addr
  μ : Mt
def Sd.all (s : Sd) : List Addr := [s.p, s.pm, s.pp, s.q, s.qc, s.qs]
structure SdAt (K : PySem.W.Frag) (C : Addr) (H0 H : Hp) (r : Addr) (n : Nat) (s : Sd) : Prop where
  pr : Pair K C H s.p s.pm s.pp s.q s.qc s.qs s.μ
  wf : Wf n s.μ
  fr : ∀ x ∈ s.all, x ≠ r ∧ H0 x = none
section
variable {K : PySem.W.Frag} {mg : Str → Option Value} {C : Addr} {H0 H H' : Hp} {r : Addr} {n : Nat} {s : Sd} {S : List Addr}
theorem SdAt.mx (h : SdAt K C H0 H r n s) (m : Mx S H H') (nt : NoTup H S) (d : ∀ x ∈ s.all, x ∉ S) : SdAt K C H0 H' r n s := ⟨h.pr.mx m nt d, h.wf, h.fr⟩
theorem SdAt.mx0 (h : SdAt K C H0 H r n s) (m : Mx [] H H') : SdAt K C H0 H' r n s := ⟨h.pr.mx0 m, h.wf, h.fr⟩
theorem SdAt.extn (h : SdAt K C H0 H r n s) (e : LamX.ExtN H H') : SdAt K C H0 H' r n s := ⟨h.pr.extn e, h.wf, h.fr⟩
theorem SdAt.mono {n' : Nat} (h : SdAt K C H0 H r n s) (l : n ≤ n') : SdAt K C H0 H r n' s := ⟨h.pr, h.wf.mono l, h.fr⟩
theorem SdAt.mr (h : SdAt K C H0 H r n s) (m : Mx [r] H H') (S : StAt K H0 H r) : SdAt K C H0 H' r n s := h.mx m S.nt fun x hx => by simpa using (h.fr x hx).1
theorem SdAt.some (h : SdAt K C H0 H r n s) : ∀ x ∈ s.all, ∃ o, H x = some o := by
  obtain ⟨⟨dx, ob⟩, me, ⟨vs, prr, _⟩, _⟩ := h.pr.m
  obtain ⟨ob2, ce, ⟨vs2, st, _⟩, _⟩ := h.pr.l
  intro x hx
  simp only [Sd.all, List.mem_cons, List.not_mem_nil, or_false] at hx
  rcases hx with rfl | rfl | rfl | rfl | rfl | rfl
  · exact ⟨_, ob⟩
  · exact ⟨_, me⟩
  · exact ⟨_, prr⟩
  · exact ⟨_, ob2⟩
  · exact ⟨_, ce⟩
  · exact ⟨_, st⟩
theorem SdAt.ne (h : SdAt K C H0 H r n s) {x : Addr} (hx : H x = none) : x ∉ s.all := fun z => by
  obtain ⟨o, e⟩ := h.some x z
  rw [e] at hx
  cases hx
theorem SdAt.st (h : SdAt K C H0 H r n s) (T : StAt K H0 H r) {S : List Addr} (m : Mx S H H') (d : ∀ x ∈ S, x ∈ s.all) : StAt K H0 H' r := T.mv m (fun x hx => (h.fr x (d x hx)).2) fun hx => (h.fr r (d r hx)).1 rfl
/-- between what is due and what is done -/
structure Mid (K : PySem.W.Frag) (C : Addr) (H0 H : Hp) (r : Addr) (n : Nat) (s : Sd) (qs' t : Addr) (d : Dd) (c : Option Nat) (v : V) : Prop where
  m : MetAt K C H s.p s.pm s.pp s.μ
  l : LmAt K H s.q s.qc qs' (dueM s.μ d c).2
  dv : Dp K H v (dueM s.μ d c).1
  dd : DdAt H t d
  wf : Wf n s.μ
  ap : ∀ x ∈ [s.p, s.pm, s.pp], ∀ y ∈ [s.q, s.qc, qs'], x ≠ y
  fr : ∀ x ∈ [s.p, s.pm, s.pp, s.q, s.qc, qs'], x ≠ r ∧ H0 x = none
  st : StAt K H0 H r
def Sd.nx (s : Sd) (qs' : Addr) (d : Dd) (c : Option Nat) : Sd := { s with qs := qs', μ := (dueM s.μ d c).2 }
theorem side_due {Q : VK} {E : XK} {t : Addr} {d : Dd} {c : Option Nat} (h : SdAt K C H0 H r n s) (S : StAt K H0 H r) (hn : n < 1000) (hd : DdAt H t d)
    (k : ∀ v qs' H', (qs' = s.qs ∨ H qs' = none) → Mx [s.q, s.qc, s.qs] H H' → Mid K C H0 H' r n s qs' t d c v → Q v H') : spLDue (K := K) ([.ref s.q, .ref t, cutO c] ++ []) H Q E := by
  have hln := h.wf.ln
  refine ⟨s.q, s.qc, s.qs, t, s.μ, d, c, rfl, h.pr.l, h.wf.any, h.wf.sm (by omega), by omega, hd, fun v qs' H' hq m7 L7 d7 => k v qs' H' hq m7 ?_⟩
  have hq7 : qs' ≠ r ∧ H0 qs' = none := by
    rcases hq with rfl | z
    · exact h.fr _ (by simp [Sd.all])
    · exact ⟨S.new z, S.mx.free0 z⟩
  refine ⟨h.pr.m.mx m7 h.pr.l.nt (fun z => h.pr.ap _ (by simp) _ z rfl) (fun z => h.pr.ap _ (by simp) _ z rfl) (fun z => h.pr.ap _ (by simp) _ z rfl), L7, d7, hd.mx m7 h.pr.l.nt, h.wf, ?_, ?_,
    h.st S m7 fun x hx => by simp [Sd.all] at hx ⊢; rcases hx with z | z | z <;> simp [z]⟩
  · intro x hx y hy
    simp only [List.mem_cons, List.not_mem_nil, or_false] at hy
    rcases hy with rfl | rfl | rfl
    · exact h.pr.ap x hx _ (by simp)
    · exact h.pr.ap x hx _ (by simp)
    · rcases hq with rfl | z
      · exact h.pr.ap x hx _ (by simp)
      · obtain ⟨o, e⟩ := h.some x (by simp [Sd.all] at hx ⊢; rcases hx with z | z | z <;> simp [z])
        exact ne_of_none e z
  · intro x hx
    simp only [List.mem_cons, List.not_mem_nil, or_false] at hx
    rcases hx with rfl | rfl | rfl | rfl | rfl | rfl
    · exact h.fr _ (by simp [Sd.all])
    · exact h.fr _ (by simp [Sd.all])
    · exact h.fr _ (by simp [Sd.all])
    · exact h.fr _ (by simp [Sd.all])
    · exact h.fr _ (by simp [Sd.all])
    · exact hq7
theorem Mid.extn {qs' t : Addr} {d : Dd} {c : Option Nat} {v : V} (h : Mid K C H0 H r n s qs' t d c v) (nt0 : NoTbl H0) (e : LamX.ExtN H H') : Mid K C H0 H' r n s qs' t d c v :=
  ⟨h.m.extn e, h.l.extn e, extn_dp e h.dv, h.dd.extn e, h.wf, h.ap, h.fr, h.st.extn nt0 e⟩
theorem Mid.mx0 {qs' t : Addr} {d : Dd} {c : Option Nat} {v : V} (h : Mid K C H0 H r n s qs' t d c v) (m : Mx [] H H') : Mid K C H0 H' r n s qs' t d c v :=
  ⟨h.m.mx0 m, h.l.mx0 m, h.dv.mx m, h.dd.mx0 m, h.wf, h.ap, h.fr, h.st.mx0 m⟩
theorem side_does (T : Tx K mg) {Q : VK} {qs' t : Addr} {d : Dd} {c : Option Nat} {v : V} {Tb : List (Addr × Str)} (h : Mid K T.C_Meter H0 H r n s qs' t d c v) (tb : LamX.Tabs Tb H) (hn : n < 1000)
    (k : ∀ v2 H', Mx [s.p, s.pm, s.pp] H H' → LamX.Tabs Tb H' → StAt K H0 H' r → SdAt K T.C_Meter H0 H' r (n + 1) (s.nx qs' d c) → Dp K H' v (dueM s.μ d c).1 → Dp K H' v2 (dueM s.μ d c).1 → Q v2 H') :
    spDoes T ([.ref s.p, .ref t, cutO c] ++ []) H Q (fun cls dx H' => ∃ rf : Rf, cls = .ref (rf.at T) ∧ dx = none ∧ ∀ H'', Mx [] H' H'' → Q (.str rf.word) H'') := by
  have hln := h.wf.ln
  obtain ⟨ok1, ok2, ok3⟩ := due_frz s.μ d c
  have W7 := due_wf h.wf d c
  obtain ⟨dd1, dd2⟩ := does_due h.wf d c
  refine ⟨s.p, s.pm, s.pp, t, s.μ, d, c, rfl, h.m, h.wf.any, h.wf.sm (by omega), by omega, h.dd, fun rf hrf H9 m9 => ⟨rf, rfl, rfl, fun H10 m10 => ?_⟩, fun hn2 v2 H9 m9 M9 d9 => ?_⟩
  · have m := m9.trans m10
    have ed := dd1 rf hrf
    have em : (dueM s.μ d c).2 = s.μ := by rw [ed]
    have ev : (dueM s.μ d c).1 = .str rf.word := by rw [ed]
    refine k _ _ m.of0 (Tabs.mx0 tb m) (h.st.mx0 m) ⟨⟨?_, h.l.mx0 m, h.ap⟩, W7, h.fr⟩ (h.dv.mx m) (by rw [ev]; exact .str _)
    show MetAt K T.C_Meter H10 s.p s.pm s.pp (dueM s.μ d c).2
    rw [em]
    exact h.m.mx0 m
  · have ed := dd2 hn2
    refine k _ _ m9 (Tabs.mx tb m9 h.m.nx) (h.st.mv m9 (fun x hx => (h.fr x (by simp at hx ⊢; rcases hx with z | z | z <;> simp [z])).2) (fun hx => (h.fr r (by simp at hx ⊢; rcases hx with z | z | z <;> simp [z])).1 rfl))
      ⟨⟨?_, h.l.mx m9 h.m.nt (fun z => h.ap _ z _ (by simp) rfl) (fun z => h.ap _ z _ (by simp) rfl) (fun z => h.ap _ z _ (by simp) rfl), h.ap⟩, W7, h.fr⟩ (h.dv.mxT m9 h.m.nt ok1) (by rw [ed]; exact d9)
    show MetAt K T.C_Meter H9 s.p s.pm s.pp (dueM s.μ d c).2
    rw [ed]
    exact M9
theorem side_same {Q : VK} {E : XK} {v v2 : V} {μ : Mt} {d : Dd} {c : Option Nat} (d1 : Dp K H v2 (dueM μ d c).1) (d2 : Dp K H v (dueM μ d c).1) (k : ∀ H', Mx [] H H' → Q (.bl true) H') : spSame (K := K) 8 ([v2, v] ++ []) H Q E :=
  ⟨v2, v, _, rfl, (due_frz μ d c).2.2, (due_frz μ d c).2.1, d1, d2, k⟩
theorem side_deed {Q : VK} {E : XK} (h : SdAt K C H0 H r n s) (S : StAt K H0 H r) (hn : n < 1000) (k : ∀ t d H', DdGood s.μ d → Mx [r] H H' → StAt K H0 H' r → SdAt K C H0 H' r n s → H t = none → DdAt H' t d → Q (.ref t) H') : spDeed (K := K) ([.ref r, .ref s.q] ++ []) H Q E :=
  ⟨H0, r, s.q, s.qc, s.qs, s.μ, rfl, S, h.pr.l, h.wf.any, h.wf.sm (by omega), (h.fr _ (by simp [Sd.all])).1.symm, (h.fr _ (by simp [Sd.all])).1.symm, (h.fr _ (by simp [Sd.all])).1.symm, fun t d H' g m S' f e => k t d H' g m S' (h.mr m S) f e⟩
theorem side_freshF (T : Tx K mg) {Q : VK} {E : XK} (S : StAt K H0 H r) (k : ∀ t s H', (∀ x ∈ s.all, H x = none) → Mx [r] H H' → StAt K H0 H' r → SdAt K T.C_Meter H0 H' r 0 s → Fr s.μ → H' t = some (.tup [.ref s.p, .ref s.q]) → Q (.ref t) H') : spFresh T ([.ref r] ++ []) H Q E :=
  ⟨H0, r, rfl, S, fun t p pm pp q qc qs μ H' hf m S' R W e => k t ⟨p, pm, pp, q, qc, qs, μ⟩ H' hf m S' ⟨R, W.1, fun x hx => ⟨S.new (hf x hx), S.mx.free0 (hf x hx)⟩⟩ W.2 e⟩
theorem side_fresh (T : Tx K mg) {Q : VK} {E : XK} (S : StAt K H0 H r) (k : ∀ t s H', (∀ x ∈ s.all, H x = none) → Mx [r] H H' → StAt K H0 H' r → SdAt K T.C_Meter H0 H' r 0 s → H' t = some (.tup [.ref s.p, .ref s.q]) → Q (.ref t) H') : spFresh T ([.ref r] ++ []) H Q E :=
  side_freshF T S fun t s H' a b c d _ e => k t s H' a b c d e
end
end Fk
namespace Fk
open PySem PySem.Spec PyProof.Rows L2
local macro_rules | `(tactic| wtm_at "ln") => `(tactic| first
  | omega
  | (simp only [List.length_cons, List.length_nil, List.length_map, List.length_append, List.length_replicate, List.length_take, List.length_drop, List.length_set]; omega)
  | (with_unfolding_all exact (by decide)))
local macro_rules | `(tactic| wtm_at "ar") => `(tactic| first
  | ((with_reducible show CMulW _ _); (refine' mulS ?_ ?_ <;> omega))
  | ((with_reducible show CDivW _ _); (refine' divS ?_ ?_ <;> omega))
  | ((with_reducible show CPow _ _); exact ⟨by decide, by decide, by decide⟩)
  | (show (0 : Int) < _; omega)
  | (with_unfolding_all exact (by decide)))
local macro_rules | `(tactic| wtm_at "at") => `(tactic| first
  | assumption
  | (refine' cl_atE ?e80 ?h80; (case' e80 => first | exact rfl | assumption); (case' h80 => wtm_at "ln"))
  | exact rfl)
local macro_rules | `(tactic| wtm_at "fr") => `(tactic| first
  | assumption
  | ((with_reducible refine' Mx.free0 ?m99 ?h99); (case' h99 => assumption); (case' m99 => wtm_at "mo")))
local macro_rules | `(tactic| wtm_at "hp") => `(tactic| first
  | assumption
  | ((with_reducible refine' Mx.get0 ?m1 ?h1); (case' m1 => assumption); (case' h1 => wtm_at "hp"))
  | ((with_reducible refine' Mx.get ?m2 ?n2 ?h2); (case' m2 => assumption); (case' n2 => wtm_at "nin"); (case' h2 => wtm_at "hp")))
local macro_rules | `(tactic| wtm_at "sl") => `(tactic| first
  | assumption
  | ((with_reducible refine' Mx.sqL0 ?m96 ?h96); (case' h96 => assumption); (case' m96 => wtm_at "mo"))
  | (refine' SqL.of ?h3; (case' h3 => wtm_at "hp"))
  | ((with_reducible refine' Mx.sqL0 ?m4 ?h4); (case' m4 => assumption); (case' h4 => wtm_at "sl"))
  | ((with_reducible refine' Mx.sqL ?m5 ?n5 ?h5); (case' m5 => assumption); (case' n5 => wtm_at "nin"); (case' h5 => wtm_at "sl")))
local macro_rules | `(tactic| wtm_at "st") => `(tactic| first
  | assumption
  | ((with_reducible refine' Mx.sqT0 ?m97 ?h97); (case' h97 => assumption); (case' m97 => wtm_at "mo"))
  | (refine' SqT.of ?h6; (case' h6 => wtm_at "hp"))
  | ((with_reducible refine' Mx.sqT0 ?m7 ?h7); (case' m7 => assumption); (case' h7 => wtm_at "st"))
  | ((with_reducible refine' Mx.sqT ?m8 ?n8 ?h8); (case' m8 => assumption); (case' n8 => wtm_at "nin"); (case' h8 => wtm_at "st")))
local macro_rules | `(tactic| wtm_at "mx") => `(tactic| first
  | assumption
  | exact Mx.refl
  | ((with_reducible refine' Mx.of0 ?h9); (case' h9 => assumption))
  | ((with_reducible refine' Mx.trans ?h10 ?m10); (case' m10 => first | assumption | ((with_reducible refine' Mx.of0 ?q10); (case' q10 => assumption))); (case' h10 => wtm_at "mx")))
local macro_rules | `(tactic| wtm_at "mo") => `(tactic| first
  | wtm_at "mx"
  | ((with_reducible refine' Mx.own ?m90 ?f90 ?k90); (case' k90 => assumption); (case' f90 => wtm_at "fr"); (case' m90 => wtm_at "mo"))
  | ((with_reducible refine' Mx.trans ?h91 ?m91); (case' m91 => first | assumption | ((with_reducible refine' Mx.of0 ?q91); (case' q91 => assumption))); (case' h91 => wtm_at "mo")))
local macro_rules | `(tactic| wtm_at "ne") => `(tactic| first
  | assumption
  | exact Ne.symm (by assumption)
  | ((with_reducible refine' ne_of_none ?x94 ?y94); (case' y94 => assumption); (case' x94 => wtm_at "hp"))
  | ((with_reducible refine' Ne.symm (ne_of_none ?x95 ?y95)); (case' y95 => assumption); (case' x95 => wtm_at "hp")))
local macro_rules | `(tactic| wtm_at "nin") => `(tactic| first
  | assumption
  | exact List.not_mem_nil
  | ((with_reducible refine' List.not_mem_cons_of_ne_of_not_mem ?h98 ?t98); (case' h98 => wtm_at "ne"); (case' t98 => wtm_at "nin")))
local macro_rules | `(tactic| wtm_at "g1") => `(tactic| first
  | ((with_reducible refine' g_var ?h11 ?k11); (case' h11 => exact rfl))
  | with_reducible refine' g_c ?_
  | with_reducible refine' g_op ?_
  | with_reducible refine' g_I0 ?_
  | ((with_reducible refine' g_I ?c12 ?k12); (case' c12 => wtm_at "ar"))
  | with_reducible refine' g_cons ?_
  | with_reducible refine' g_nil ?_
  | with_reducible refine' g_seq ?_
  | with_reducible refine' g_asg ?_
  | with_reducible refine' g_name ?_
  | with_reducible refine' g_ret ?_
  | with_reducible refine' g_if ?_
  | with_reducible refine' g_test ?_
  | with_reducible refine' g_tB ?_
  | with_reducible refine' g_bl ?_
  | ((with_reducible refine' g_eq ?h13 ?k13); (case' h13 => exact rfl))
  | ((with_reducible refine' g_ne ?h14 ?k14); (case' h14 => exact rfl))
  | with_reducible refine' g_CB ?_
  | with_reducible refine' g_call ?_
  | with_reducible refine' g_drop ?_
  | with_reducible refine' g_next ?_
  | with_reducible refine' g_not ?_
  | with_reducible refine' g_and ?_
  | with_reducible refine' g_or ?_
  | with_reducible refine' g_un ?_
  | with_reducible refine' g_U ?_
  | with_reducible refine' g_tup ?_
  | with_reducible refine' g_lst ?_
  | ((with_reducible refine' g_kNew ?h15 ?k15); (case' h15 => wtm_at "ln"); (case' k15 => intro _ _ _ _ _))
  | ((with_reducible refine' g_ixL ?h16 ?a16 ?k16); (case' h16 => wtm_at "sl"); (case' a16 => wtm_at "at"))
  | ((with_reducible refine' g_ixT ?h17 ?a17 ?k17); (case' h17 => wtm_at "st"); (case' a17 => wtm_at "at"))
  | with_reducible refine' g_slice ?_
  | with_reducible refine' g_part ?_
  | with_reducible refine' g_kPart ?_
  | with_reducible refine' g_noPart ?_
  | ((with_reducible refine' g_slL ?h18 ?k18); (case' h18 => wtm_at "sl"); (case' k18 => intro _ _ _ _ _))
  | ((with_reducible refine' g_cat ?h119 ?h219 ?l19 ?k19); (case' h119 => wtm_at "hp"); (case' h219 => wtm_at "hp"); (case' l19 => wtm_at "ln"); (case' k19 => intro _ _ _ _ _))
  | ((with_reducible refine' g_rep ?h120 ?h220 ?h320 ?l20 ?k20); (case' h120 => wtm_at "hp"); (case' h220 => wtm_at "ln"); (case' h320 => wtm_at "ln"); (case' l20 => wtm_at "ln"); (case' k20 => intro _ _ _ _ _))
  | ((with_reducible refine' g_append ?h21 ?l21 ?k21); (case' h21 => wtm_at "hp"); (case' l21 => wtm_at "ln"); (case' k21 => intro _ _ _))
  | ((with_reducible refine' g_kBM ?h22 ?k22); (case' h22 => wtm_at "sl"))
  | ((with_reducible refine' g_kBM0 ?h23 ?k23); (case' h23 => wtm_at "sl"))
  | ((with_reducible refine' g_kL ?h24 ?k24); (case' h24 => wtm_at "sl"))
  | ((with_reducible refine' g_kR1 ?h125 ?h225 ?k25); (case' h125 => wtm_at "ln"); (case' h225 => wtm_at "ln"))
  | ((with_reducible refine' g_kR2 ?h126 ?h226 ?h326 ?h426 ?k26); (case' h126 => wtm_at "ln"); (case' h226 => wtm_at "ln"); (case' h326 => wtm_at "ln"); (case' h426 => wtm_at "ln"))
  | ((with_reducible refine' g_lenL ?h27 ?k27); (case' h27 => wtm_at "sl"))
  | ((with_reducible refine' g_lenT ?h28 ?k28); (case' h28 => wtm_at "st"))
  | ((with_reducible refine' g_listL ?h29 ?k29); (case' h29 => wtm_at "sl"); (case' k29 => intro _ _ _ _ _))
  | ((with_reducible refine' g_tupleL ?h30 ?k30); (case' h30 => wtm_at "sl"); (case' k30 => intro _ _ _ _ _))
  | with_reducible refine' g_max ?_
  | with_reducible refine' g_min ?_
  | with_reducible refine' g_intB ?_
  | with_reducible refine' g_fld ?_
  | with_reducible refine' g_put ?_
  | with_reducible refine' g_dget ?_
  | with_reducible refine' g_isN ?_
  | with_reducible refine' g_notN ?_
  | with_reducible refine' g_ifE ?_
  | with_reducible refine' g_andV ?_
  | with_reducible refine' g_orV ?_
  | with_reducible refine' g_notV ?_
  | with_reducible refine' g_kIf ?_
  | with_reducible refine' g_chain ?_
  | with_reducible refine' g_kCh ?_
  | with_reducible refine' g_sub ?_
  | ((with_reducible refine' g_setI ?h92 ?e92 ?j92 ?k92); (case' h92 => wtm_at "hp"); (case' e92 => first | exact rfl | assumption); (case' j92 => wtm_at "ln"); (case' k92 => intro _ _ _))
  | ((with_reducible refine' g_setL ?h89 ?i89 ?k89); (case' h89 => wtm_at "hp"); (case' i89 => exact ixE rfl (by wtm_at "ln")); (case' k89 => intro _ _ _))
  | ((with_reducible refine' g_gtup ?h93 ?e93 ?k93); (case' h93 => wtm_at "st"); (case' e93 => exact rfl))
  | with_reducible refine' g_gcons ?_
  | with_reducible refine' g_gnil ?_
  | with_reducible refine' g_par ?_
  | with_reducible refine' g_kPar ?_
  | with_reducible refine' g_meth ?_
  | with_reducible refine' g_bm ?_
  | with_reducible refine' g_bm0 ?_
  | with_reducible refine' g_raise ?_
  | with_reducible refine' g_for ?_
  | with_reducible refine' g_iR1 ?_
  | with_reducible refine' g_iR2 ?_
  | with_reducible refine' g_iL ?_
  | with_reducible refine' g_lc ?_
  | with_reducible refine' g_retN ?_
  | with_reducible refine' g_no (b := false) rfl ?_
  | with_reducible refine' g_yes (b := true) rfl ?_)
local macro_rules | `(tactic| wtm_at "go") => `(tactic| repeat (wtm_at "g1"))
local macro_rules | `(tactic| wtm_at "gs") => `(tactic| repeat ((fail_if_success (with_reducible refine' g_ifE ?_)); wtm_at "g1"))
local macro_rules | `(tactic| wtm_at "gi") => `(tactic| repeat ((fail_if_success (with_reducible refine' g_if ?_)); wtm_at "g1"))
local macro_rules | `(tactic| wtm_at "gr") => `(tactic| repeat ((fail_if_success (with_reducible refine' g_ret ?_)); wtm_at "g1"))
local macro_rules | `(tactic| wtm_at "gq") => `(tactic| repeat ((fail_if_success (with_reducible refine' g_asg ?_)); wtm_at "g1"))
/-! ### more of a side -/
section
variable {K : PySem.W.Frag} {mg : Str → Option Value} {C : Addr} {H0 H H' : Hp} {r : Addr} {n : Nat} {s : Sd} {S : List Addr}
/-- done by the meter, not yet gone through here -/
structure Mid2 (K : PySem.W.Frag) (C : Addr) (H0 H : Hp) (r : Addr) (n : Nat) (s : Sd) (d : Dd) (c : Option Nat) (v : V) : Prop where
  m : MetAt K C H s.p s.pm s.pp (dueM s.μ d c).2
  l : LmAt K H s.q s.qc s.qs s.μ
  dv : Dp K H v (dueM s.μ d c).1
  wf : Wf n s.μ
  ap : ∀ x ∈ [s.p, s.pm, s.pp], ∀ y ∈ [s.q, s.qc, s.qs], x ≠ y
  fr : ∀ x ∈ s.all, x ≠ r ∧ H0 x = none
  st : StAt K H0 H r
theorem Mid2.mx0 {d : Dd} {c : Option Nat} {v : V} (h : Mid2 K C H0 H r n s d c v) (m : Mx [] H H') : Mid2 K C H0 H' r n s d c v :=
  ⟨h.m.mx0 m, h.l.mx0 m, h.dv.mx m, h.wf, h.ap, h.fr, h.st.mx0 m⟩
/-- the meter does it first -/
theorem side_first (h : SdAt K C H0 H r n s) (S : StAt K H0 H r) {d : Dd} {c : Option Nat} {v : V} (m : Mx [s.p, s.pm, s.pp] H H') (M : MetAt K C H' s.p s.pm s.pp (dueM s.μ d c).2) (dv : Dp K H' v (dueM s.μ d c).1) : Mid2 K C H0 H' r n s d c v :=
  ⟨M, h.pr.l.mx m h.pr.m.nt (fun z => h.pr.ap _ z _ (by simp) rfl) (fun z => h.pr.ap _ z _ (by simp) rfl) (fun z => h.pr.ap _ z _ (by simp) rfl), dv, h.wf, h.pr.ap, h.fr,
    h.st S m fun x hx => by simp [Sd.all] at hx ⊢; rcases hx with z | z | z <;> simp [z]⟩
/-- refused by the meter first -/
theorem side_first_ref (h : SdAt K C H0 H r n s) (S : StAt K H0 H r) {d : Dd} {c : Option Nat} {rf : Rf} (m : Mx [] H H') (e : dueM s.μ d c = (.str rf.word, s.μ)) : Mid2 K C H0 H' r n s d c (.str rf.word) :=
  ⟨by rw [e]; exact h.pr.m.mx0 m, h.pr.l.mx0 m, by rw [e]; exact .str _, h.wf, h.pr.ap, h.fr, S.mx0 m⟩
theorem nx_free {x qs' : Addr} {d : Dd} {c : Option Nat} (h : x ∉ s.all) (e : H x ≠ none) (hq : qs' = s.qs ∨ H qs' = none) : x ∉ (s.nx qs' d c).all := by
  intro z
  simp only [Sd.nx, Sd.all, List.mem_cons, List.not_mem_nil, or_false] at z
  rcases z with z | z | z | z | z | z
  · exact h (by simp [Sd.all, z])
  · exact h (by simp [Sd.all, z])
  · exact h (by simp [Sd.all, z])
  · exact h (by simp [Sd.all, z])
  · exact h (by simp [Sd.all, z])
  · rcases hq with q | q
    · exact h (by simp [Sd.all, z, q])
    · rw [← z] at q; exact e q
theorem all_m {x : Addr} (h : x ∉ s.all) : x ∉ [s.p, s.pm, s.pp] := fun z => h (by simp [Sd.all] at z ⊢; rcases z with z | z | z <;> simp [z])
theorem all_l {x : Addr} (h : x ∉ s.all) : x ∉ [s.q, s.qc, s.qs] := fun z => h (by simp [Sd.all] at z ⊢; rcases z with z | z | z <;> simp [z])
theorem side_due2 {Q : VK} {E : XK} {t : Addr} {d : Dd} {c : Option Nat} {v2 : V} {Tb : List (Addr × Str)} (h : Mid2 K C H0 H r n s d c v2) (tb : LamX.Tabs Tb H) (hn : n < 1000) (hd : DdAt H t d)
    (k : ∀ v qs' H', (qs' = s.qs ∨ H qs' = none) → Mx [s.q, s.qc, s.qs] H H' → LamX.Tabs Tb H' → StAt K H0 H' r → SdAt K C H0 H' r (n + 1) (s.nx qs' d c) → Dp K H' v (dueM s.μ d c).1 → Dp K H' v2 (dueM s.μ d c).1 → Q v H') : spLDue (K := K) ([.ref s.q, .ref t, cutO c] ++ []) H Q E := by
  have hln := h.wf.ln
  obtain ⟨ok1, ok2, ok3⟩ := due_frz s.μ d c
  refine ⟨s.q, s.qc, s.qs, t, s.μ, d, c, rfl, h.l, h.wf.any, h.wf.sm (by omega), by omega, hd, fun v qs' H' hq m7 L7 d7 => ?_⟩
  have hq7 : qs' ≠ r ∧ H0 qs' = none := by
    rcases hq with rfl | z
    · exact h.fr _ (by simp [Sd.all])
    · exact ⟨h.st.new z, h.st.mx.free0 z⟩
  have M7 := h.m.mx m7 h.l.nt (fun z => h.ap _ (by simp) _ z rfl) (fun z => h.ap _ (by simp) _ z rfl) (fun z => h.ap _ (by simp) _ z rfl)
  refine k v qs' H' hq m7 (Tabs.mx tb m7 h.l.nx) (h.st.mv m7 (fun x hx => (h.fr x (by simp [Sd.all] at hx ⊢; rcases hx with z | z | z <;> simp [z])).2) (fun hx => (h.fr r (by simp [Sd.all] at hx ⊢; rcases hx with z | z | z <;> simp [z])).1 rfl))
    ⟨⟨M7, L7, ?_⟩, due_wf h.wf d c, ?_⟩ d7 (h.dv.mxT m7 h.l.nt ok1)
  · intro x hx y hy
    simp only [Sd.nx, List.mem_cons, List.not_mem_nil, or_false] at hy
    rcases hy with rfl | rfl | rfl
    · exact h.ap x hx _ (by simp)
    · exact h.ap x hx _ (by simp)
    · rcases hq with rfl | z
      · exact h.ap x hx _ (by simp)
      · obtain ⟨⟨dx, ob⟩, me, ⟨vs, prr, _⟩, _⟩ := h.m
        simp only [Sd.nx, List.mem_cons, List.not_mem_nil, or_false] at hx
        rcases hx with rfl | rfl | rfl
        · exact ne_of_none ob z
        · exact ne_of_none me z
        · exact ne_of_none prr z
  · intro x hx
    simp only [Sd.nx, Sd.all, List.mem_cons, List.not_mem_nil, or_false] at hx
    rcases hx with rfl | rfl | rfl | rfl | rfl | rfl
    · exact h.fr _ (by simp [Sd.all])
    · exact h.fr _ (by simp [Sd.all])
    · exact h.fr _ (by simp [Sd.all])
    · exact h.fr _ (by simp [Sd.all])
    · exact h.fr _ (by simp [Sd.all])
    · exact hq7
theorem side_word {Q : VK} {E : XK} {t : Addr} {d : Dd} (h : SdAt K C H0 H r n s) (hn : n < 1000) (hd : DdAt H t d) (hu : d ≠ .up) (k : ∀ H', Mx [] H H' → Q (.str (wordOf (refR s.μ d))) H') : spLWord (K := K) ([.ref s.q, .ref t] ++ []) H Q E :=
  ⟨s.q, s.qc, s.qs, t, s.μ, d, rfl, h.pr.l, h.wf.any, h.wf.sm (by omega), hd, hu, k⟩
/-- what is refused changes nothing -/
theorem side_refused (T : Tx K mg) {Q : VK} {t : Addr} {d : Dd} {c : Option Nat} {rf : Rf} (h : SdAt K T.C_Meter H0 H r n s) (hn : n < 1000) (hd : DdAt H t d) (hr : doesR s.μ d = some rf)
    (k : ∀ H', Mx [] H H' → Q (.str rf.word) H') :
    spDoes T ([.ref s.p, .ref t, cutO c] ++ []) H Q (fun cls dx H' => ∃ rf : Rf, cls = .ref (rf.at T) ∧ dx = none ∧ ∀ H'', Mx [] H' H'' → Q (.str rf.word) H'') := by
  have hln := h.wf.ln
  refine ⟨s.p, s.pm, s.pp, t, s.μ, d, c, rfl, h.pr.m, h.wf.any, h.wf.sm (by omega), by omega, hd, fun rf2 hrf H9 m9 => ⟨rf2, rfl, rfl, fun H10 m10 => ?_⟩, fun hn2 => ?_⟩
  · rw [hr] at hrf
    cases hrf
    exact k _ (m9.trans m10)
  · rw [hr] at hn2
    cases hn2
end
/-- over a range, whatever goes on -/
theorem g_lcRI {σ : L2.St} {H : Hp} {Q : VK} {lo : Int} {n j : Nat} {te : TE} {vs : List Nat} (Pv : Nat → Hp → List V → Prop) (hw : ∀ x, wipe ((wipe σ vs).set j (some x)) vs = wipe σ vs) (hn : n ≤ 50000)
    (h0 : ∀ Dl H', H Dl = none → Mx [] H H' → H' Dl = some (.lst []) → Pv 0 H' [])
    (hs : ∀ (i : Nat) (Dl : Addr) (H' : Hp) (ws : List V) (QN : VK), i < n → H Dl = none → H' Dl = some (.lst ws) → ws.length = i → Pv i H' ws → (∀ y H3, H3 Dl = some (.lst ws) → (∀ H4, Mx [Dl] H3 H4 → H4 Dl = some (.lst (ws ++ [y])) → Pv (i + 1) H4 (ws ++ [y])) → QN y H3) → te ((wipe σ vs).set j (some (.int (lo + i)))) H' QN)
    (hd : ∀ Dl H' ws, H Dl = none → H' Dl = some (.lst ws) → ws.length = n → Pv n H' ws → Q (.ref Dl) H') : kLc (gName j) tYes te vs σ Q (Itr lo n) H := by
  intro Dl hDl
  refine lc_range (fun i H' => ∃ ws, H' Dl = some (.lst ws) ∧ ws.length = i ∧ Pv i H' ws) ⟨[], upd_same, rfl, h0 Dl _ hDl (.new hDl) upd_same⟩ (fun i H' hi hp => ?_) (fun H' hp => ?_)
  · obtain ⟨ws, e, l, p⟩ := hp
    refine ⟨hw _, ?_⟩
    show te _ H' _
    refine hs i Dl H' ws _ hi hDl e l p fun y H3 e3 p3 => ?_
    exact ⟨ws, e3, lineL (by omega), _, upd_same, by rw [List.length_append, l]; rfl, p3 _ (.put (by simp)) upd_same⟩
  · obtain ⟨ws, e, l, p⟩ := hp
    exact hd Dl H' ws hDl e l p
theorem g_cutF {F : VK → Prop} {Q : VK} (R : VK → Prop) (h : ∀ Q', R Q' → F Q') (k : R Q) : F Q := h Q k
theorem run_up {μ : Mt} (chs : List (Nat × Int)) (h : μ.up = true) : (runM μ chs none).2.up = true := by
  simp only [runM, writeM, printM]
  split
  · exact h
  · split
    · rename_i z; cases z
    · exact h
theorem due_up {μ : Mt} {d : Dd} (hd : d ≠ .up) (h : μ.up = true) : (dueM μ d none).2.up = true := by
  cases hr : refR μ d with
  | some r => rw [dueM_ref hd hr]; exact h
  | none => rw [dueM_run hd hr]; exact run_up _ h
/-- data without lists are the same as they are -/
theorem due_eqv (μ : Mt) (d : Dd) (cut : Option Nat) : PyData.eqv (dueM μ d cut).1 (dueM μ d cut).1 = true ∧ SeqAt.shaped (dueM μ d cut).1 = true := by
  have hc : ∀ z : Cd, PyData.eqv (cdD z) (cdD z) = true ∧ SeqAt.shaped (cdD z) = true := fun z => by
    refine ⟨by simp [cdD, PyData.eqv, PyData.eqvAll], by simp [SeqAt.shaped, cdD, PyData.canLay0, PyData.canLayAll0, PyData.depth, PyData.depthAll]⟩
  have h0 : PyData.eqv PyData.none PyData.none = true ∧ SeqAt.shaped PyData.none = true := ⟨by simp [PyData.eqv], by simp [SeqAt.shaped, PyData.canLay0, PyData.depth]⟩
  have hb : ∀ b, PyData.eqv (PyData.bool b) (PyData.bool b) = true ∧ SeqAt.shaped (PyData.bool b) = true := fun b => ⟨by simp [PyData.eqv], by simp [SeqAt.shaped, PyData.canLay0, PyData.depth]⟩
  have hi : ∀ i, PyData.eqv (PyData.int i) (PyData.int i) = true ∧ SeqAt.shaped (PyData.int i) = true := fun b => ⟨by simp [PyData.eqv], by simp [SeqAt.shaped, PyData.canLay0, PyData.depth]⟩
  have hs : ∀ r : Rf, PyData.eqv (PyData.str r.word) (PyData.str r.word) = true ∧ SeqAt.shaped (PyData.str r.word) = true := fun r => ⟨by simp [PyData.eqv], by cases r <;> decide +kernel⟩
  by_cases hd : d = .up
  · subst hd
    by_cases hu : μ.up = true
    · have e : dueM μ .up cut = (.str "Up", μ) := if_pos hu
      rw [e]
      exact hs .up
    · cases eo : owed μ with
      | none =>
        have e : dueM μ .up cut = (.bool true, { μ with up := true }) := by simp [dueM, hu, eo]
        rw [e]
        exact hb _
      | some s =>
        by_cases h0' : cut = some 0
        · have e : dueM μ .up cut = (.none, μ) := by simp [dueM, hu, eo, h0']
          rw [e]
          exact h0
        · have e : dueM μ .up cut = (.bool true, { μ with stamps := μ.stamps ++ [s], up := true }) := by simp [dueM, hu, eo, h0']
          rw [e]
          exact hb _
  · cases hr : refR μ d with
    | some r => rw [dueM_ref hd hr]; exact hs _
    | none =>
      rw [dueM_run hd hr]
      show PyData.eqv (if _ then _ else _) (if _ then _ else _) = true ∧ SeqAt.shaped (if _ then _ else _) = true
      split
      · cases d with
        | stamp a => exact hi _
        | back a => exact hc _
        | top z => exact hi _
        | up => exact h0
      · exact h0
end Fk
namespace Fk
open PySem PySem.Spec PyProof.Rows L2
local macro_rules | `(tactic| wtm_at "ln") => `(tactic| first
  | omega
  | (simp only [List.length_cons, List.length_nil, List.length_map, List.length_append, List.length_replicate, List.length_take, List.length_drop, List.length_set]; omega)
  | (with_unfolding_all exact (by decide)))
local macro_rules | `(tactic| wtm_at "ar") => `(tactic| first
  | ((with_reducible show CMulW _ _); (refine' mulS ?_ ?_ <;> omega))
  | ((with_reducible show CDivW _ _); (refine' divS ?_ ?_ <;> omega))
  | ((with_reducible show CPow _ _); exact ⟨by decide, by decide, by decide⟩)
  | (show (0 : Int) < _; omega)
  | (with_unfolding_all exact (by decide)))
local macro_rules | `(tactic| wtm_at "at") => `(tactic| first
  | assumption
  | (refine' cl_atE ?e80 ?h80; (case' e80 => first | exact rfl | assumption); (case' h80 => wtm_at "ln"))
  | exact rfl)
local macro_rules | `(tactic| wtm_at "fr") => `(tactic| first
  | assumption
  | ((with_reducible refine' Mx.free0 ?m99 ?h99); (case' h99 => assumption); (case' m99 => wtm_at "mo")))
local macro_rules | `(tactic| wtm_at "hp") => `(tactic| first
  | assumption
  | ((with_reducible refine' Mx.get0 ?m1 ?h1); (case' m1 => assumption); (case' h1 => wtm_at "hp"))
  | ((with_reducible refine' Mx.get ?m2 ?n2 ?h2); (case' m2 => assumption); (case' n2 => wtm_at "nin"); (case' h2 => wtm_at "hp")))
local macro_rules | `(tactic| wtm_at "sl") => `(tactic| first
  | assumption
  | ((with_reducible refine' Mx.sqL0 ?m96 ?h96); (case' h96 => assumption); (case' m96 => wtm_at "mo"))
  | (refine' SqL.of ?h3; (case' h3 => wtm_at "hp"))
  | ((with_reducible refine' Mx.sqL0 ?m4 ?h4); (case' m4 => assumption); (case' h4 => wtm_at "sl"))
  | ((with_reducible refine' Mx.sqL ?m5 ?n5 ?h5); (case' m5 => assumption); (case' n5 => wtm_at "nin"); (case' h5 => wtm_at "sl")))
local macro_rules | `(tactic| wtm_at "st") => `(tactic| first
  | assumption
  | ((with_reducible refine' Mx.sqT0 ?m97 ?h97); (case' h97 => assumption); (case' m97 => wtm_at "mo"))
  | (refine' SqT.of ?h6; (case' h6 => wtm_at "hp"))
  | ((with_reducible refine' Mx.sqT0 ?m7 ?h7); (case' m7 => assumption); (case' h7 => wtm_at "st"))
  | ((with_reducible refine' Mx.sqT ?m8 ?n8 ?h8); (case' m8 => assumption); (case' n8 => wtm_at "nin"); (case' h8 => wtm_at "st")))
local macro_rules | `(tactic| wtm_at "mx") => `(tactic| first
  | assumption
  | exact Mx.refl
  | ((with_reducible refine' Mx.of0 ?h9); (case' h9 => assumption))
  | ((with_reducible refine' Mx.trans ?h10 ?m10); (case' m10 => first | assumption | ((with_reducible refine' Mx.of0 ?q10); (case' q10 => assumption))); (case' h10 => wtm_at "mx")))
local macro_rules | `(tactic| wtm_at "mo") => `(tactic| first
  | wtm_at "mx"
  | ((with_reducible refine' Mx.own ?m90 ?f90 ?k90); (case' k90 => assumption); (case' f90 => wtm_at "fr"); (case' m90 => wtm_at "mo"))
  | ((with_reducible refine' Mx.trans ?h91 ?m91); (case' m91 => first | assumption | ((with_reducible refine' Mx.of0 ?q91); (case' q91 => assumption))); (case' h91 => wtm_at "mo")))
local macro_rules | `(tactic| wtm_at "ne") => `(tactic| first
  | assumption
  | exact Ne.symm (by assumption)
  | ((with_reducible refine' ne_of_none ?x94 ?y94); (case' y94 => assumption); (case' x94 => wtm_at "hp"))
  | ((with_reducible refine' Ne.symm (ne_of_none ?x95 ?y95)); (case' y95 => assumption); (case' x95 => wtm_at "hp")))
local macro_rules | `(tactic| wtm_at "nin") => `(tactic| first
  | assumption
  | exact List.not_mem_nil
  | ((with_reducible refine' List.not_mem_cons_of_ne_of_not_mem ?h98 ?t98); (case' h98 => wtm_at "ne"); (case' t98 => wtm_at "nin")))
local macro_rules | `(tactic| wtm_at "g1") => `(tactic| first
  | ((with_reducible refine' g_var ?h11 ?k11); (case' h11 => exact rfl))
  | with_reducible refine' g_c ?_
  | with_reducible refine' g_op ?_
  | with_reducible refine' g_I0 ?_
  | ((with_reducible refine' g_I ?c12 ?k12); (case' c12 => wtm_at "ar"))
  | with_reducible refine' g_cons ?_
  | with_reducible refine' g_nil ?_
  | with_reducible refine' g_seq ?_
  | with_reducible refine' g_asg ?_
  | with_reducible refine' g_name ?_
  | with_reducible refine' g_ret ?_
  | with_reducible refine' g_if ?_
  | with_reducible refine' g_test ?_
  | with_reducible refine' g_tB ?_
  | with_reducible refine' g_bl ?_
  | ((with_reducible refine' g_eq ?h13 ?k13); (case' h13 => exact rfl))
  | ((with_reducible refine' g_ne ?h14 ?k14); (case' h14 => exact rfl))
  | with_reducible refine' g_CB ?_
  | with_reducible refine' g_call ?_
  | with_reducible refine' g_drop ?_
  | with_reducible refine' g_next ?_
  | with_reducible refine' g_not ?_
  | with_reducible refine' g_and ?_
  | with_reducible refine' g_or ?_
  | with_reducible refine' g_un ?_
  | with_reducible refine' g_U ?_
  | with_reducible refine' g_tup ?_
  | with_reducible refine' g_lst ?_
  | ((with_reducible refine' g_kNew ?h15 ?k15); (case' h15 => wtm_at "ln"); (case' k15 => intro _ _ _ _ _))
  | ((with_reducible refine' g_ixL ?h16 ?a16 ?k16); (case' h16 => wtm_at "sl"); (case' a16 => wtm_at "at"))
  | ((with_reducible refine' g_ixT ?h17 ?a17 ?k17); (case' h17 => wtm_at "st"); (case' a17 => wtm_at "at"))
  | with_reducible refine' g_slice ?_
  | with_reducible refine' g_part ?_
  | with_reducible refine' g_kPart ?_
  | with_reducible refine' g_noPart ?_
  | ((with_reducible refine' g_slL ?h18 ?k18); (case' h18 => wtm_at "sl"); (case' k18 => intro _ _ _ _ _))
  | ((with_reducible refine' g_cat ?h119 ?h219 ?l19 ?k19); (case' h119 => wtm_at "hp"); (case' h219 => wtm_at "hp"); (case' l19 => wtm_at "ln"); (case' k19 => intro _ _ _ _ _))
  | ((with_reducible refine' g_rep ?h120 ?h220 ?h320 ?l20 ?k20); (case' h120 => wtm_at "hp"); (case' h220 => wtm_at "ln"); (case' h320 => wtm_at "ln"); (case' l20 => wtm_at "ln"); (case' k20 => intro _ _ _ _ _))
  | ((with_reducible refine' g_append ?h21 ?l21 ?k21); (case' h21 => wtm_at "hp"); (case' l21 => wtm_at "ln"); (case' k21 => intro _ _ _))
  | ((with_reducible refine' g_kBM ?h22 ?k22); (case' h22 => wtm_at "sl"))
  | ((with_reducible refine' g_kBM0 ?h23 ?k23); (case' h23 => wtm_at "sl"))
  | ((with_reducible refine' g_kL ?h24 ?k24); (case' h24 => wtm_at "sl"))
  | ((with_reducible refine' g_kR1 ?h125 ?h225 ?k25); (case' h125 => wtm_at "ln"); (case' h225 => wtm_at "ln"))
  | ((with_reducible refine' g_kR2 ?h126 ?h226 ?h326 ?h426 ?k26); (case' h126 => wtm_at "ln"); (case' h226 => wtm_at "ln"); (case' h326 => wtm_at "ln"); (case' h426 => wtm_at "ln"))
  | ((with_reducible refine' g_lenL ?h27 ?k27); (case' h27 => wtm_at "sl"))
  | ((with_reducible refine' g_lenT ?h28 ?k28); (case' h28 => wtm_at "st"))
  | ((with_reducible refine' g_listL ?h29 ?k29); (case' h29 => wtm_at "sl"); (case' k29 => intro _ _ _ _ _))
  | ((with_reducible refine' g_tupleL ?h30 ?k30); (case' h30 => wtm_at "sl"); (case' k30 => intro _ _ _ _ _))
  | with_reducible refine' g_max ?_
  | with_reducible refine' g_min ?_
  | with_reducible refine' g_intB ?_
  | with_reducible refine' g_fld ?_
  | with_reducible refine' g_put ?_
  | with_reducible refine' g_dget ?_
  | with_reducible refine' g_isN ?_
  | with_reducible refine' g_notN ?_
  | with_reducible refine' g_ifE ?_
  | with_reducible refine' g_andV ?_
  | with_reducible refine' g_orV ?_
  | with_reducible refine' g_notV ?_
  | with_reducible refine' g_kIf ?_
  | with_reducible refine' g_chain ?_
  | with_reducible refine' g_kCh ?_
  | with_reducible refine' g_sub ?_
  | ((with_reducible refine' g_setI ?h92 ?e92 ?j92 ?k92); (case' h92 => wtm_at "hp"); (case' e92 => first | exact rfl | assumption); (case' j92 => wtm_at "ln"); (case' k92 => intro _ _ _))
  | ((with_reducible refine' g_setL ?h89 ?i89 ?k89); (case' h89 => wtm_at "hp"); (case' i89 => exact ixE rfl (by wtm_at "ln")); (case' k89 => intro _ _ _))
  | ((with_reducible refine' g_gtup ?h93 ?e93 ?k93); (case' h93 => wtm_at "st"); (case' e93 => exact rfl))
  | with_reducible refine' g_gcons ?_
  | with_reducible refine' g_gnil ?_
  | with_reducible refine' g_par ?_
  | with_reducible refine' g_kPar ?_
  | with_reducible refine' g_meth ?_
  | with_reducible refine' g_bm ?_
  | with_reducible refine' g_bm0 ?_
  | with_reducible refine' g_raise ?_
  | with_reducible refine' g_for ?_
  | with_reducible refine' g_iR1 ?_
  | with_reducible refine' g_iR2 ?_
  | with_reducible refine' g_iL ?_
  | with_reducible refine' g_lc ?_
  | with_reducible refine' g_retN ?_
  | with_reducible refine' g_no (b := false) rfl ?_
  | with_reducible refine' g_yes (b := true) rfl ?_)
local macro_rules | `(tactic| wtm_at "go") => `(tactic| repeat (wtm_at "g1"))
local macro_rules | `(tactic| wtm_at "gs") => `(tactic| repeat ((fail_if_success (with_reducible refine' g_ifE ?_)); wtm_at "g1"))
local macro_rules | `(tactic| wtm_at "gi") => `(tactic| repeat ((fail_if_success (with_reducible refine' g_if ?_)); wtm_at "g1"))
local macro_rules | `(tactic| wtm_at "gr") => `(tactic| repeat ((fail_if_success (with_reducible refine' g_ret ?_)); wtm_at "g1"))
local macro_rules | `(tactic| wtm_at "gq") => `(tactic| repeat ((fail_if_success (with_reducible refine' g_asg ?_)); wtm_at "g1"))
/-! ### several defs that make lambdas -/
/-- _law_kind(lambda: ..), with all tables kept -/
theorem q_kindT {X : Cx} {K : PySem.W.Frag} {mg : Str → Option Value} (Tl : List (Addr × Str)) {c Pt : Addr} {qn : Str} (hmT : (Pt, qn) ∈ Tl) (hu : ∀ p ∈ Tl, p.1 = Pt → p.2 = qn) (T : Tx K mg) {k : Nat} {params : Arguments} {body : Expr} {scope : Scope} {t : XK → TE} {p lpos pos : Pos} (TB : LamX.TabB X.base X.mg c Pt) (hcode : X.env.code = .ref c) (hr : Room (k + 2) X.A)
    (L : LamX.LamS X.env.scope scope) (hdef : defaultsOf params X.env = ([], [])) (hbind : ∀ (q : Str) (cl : List (Str × Addr)) (pm cv ctv : Value), bindArgs (PySem.W.kla_fn "<lambda>" q params body scope cl pm cv ctv) ⟨[], []⟩ = pure [])
    (hbody : ∀ (A : Around) (outer : List Env) (s : Shared) (H : Hp) (E : XK) (f c' : Addr), Room k (A.deeper (LamX.lamEnv X scope s.heap.objs.size f c')) → PE (LamX.lamCx X A outer s H E scope f c') body (t E)) (hg : Gl X "_law_kind") (hq : qn = X.env.qual ++ "<lambda>" := by rfl) (hK : X.K = K := by rfl) (hm : X.mg = mg := by rfl) :
    PE X (.Call (.Name "_law_kind" p) [.Lambda params body scope lpos] [] pos) (LamX.tLam Tl (TKind T) t) := by
  subst hK hm hq
  obtain ⟨oc, od, kV, doc, pm, an, cdv, ct, osl, hd, lk, hcd⟩ := T.f__law_kind.F.ex
  have hb := T.f__law_kind.b
  rw [hd] at lk hb
  exact LamX.pe_lamcall (k := k) (Ng := N__law_kind) hg T.f__law_kind.g T.f__law_kind.F.kp lk hcd hb sc__law_kind rfl (.inl rfl) (kind_gives T (hr.mono (by omega))) TB hcode hmT hu hr L hdef hbind hbody
def lamQ__law_step : Str := (envOfC "_law_step" (defScope s__law_step) 0 0 .none).qual ++ "<lambda>"
def TL {K : PySem.W.Frag} {mg : Str → Option Value} (T : Tx K mg) : List (Addr × Str) := [(T.f__law_step.P, lamQ__law_step)]
theorem upd1_up {μ : Mt} (h : μ.up = true) : (dueM μ .up none).2 = μ := by
  have e : dueM μ .up none = (.str "Up", μ) := if_pos h
  rw [e]
theorem mt_up {μ : Mt} (h : μ.up = true) : { μ with up := true } = μ := by
  cases μ
  simp at h
  rw [h]
end Fk
namespace Fk
open PySem PySem.Spec PyProof.Rows L2
local macro_rules | `(tactic| wtm_at "ln") => `(tactic| first
  | omega
  | (simp only [List.length_cons, List.length_nil, List.length_map, List.length_append, List.length_replicate, List.length_take, List.length_drop, List.length_set]; omega)
  | (with_unfolding_all exact (by decide)))
local macro_rules | `(tactic| wtm_at "ar") => `(tactic| first
  | ((with_reducible show CMulW _ _); (refine' mulS ?_ ?_ <;> omega))
  | ((with_reducible show CDivW _ _); (refine' divS ?_ ?_ <;> omega))
  | ((with_reducible show CPow _ _); exact ⟨by decide, by decide, by decide⟩)
  | (show (0 : Int) < _; omega)
  | (with_unfolding_all exact (by decide)))
local macro_rules | `(tactic| wtm_at "at") => `(tactic| first
  | assumption
  | (refine' cl_atE ?e80 ?h80; (case' e80 => first | exact rfl | assumption); (case' h80 => wtm_at "ln"))
  | exact rfl)
local macro_rules | `(tactic| wtm_at "fr") => `(tactic| first
  | assumption
  | ((with_reducible refine' Mx.free0 ?m99 ?h99); (case' h99 => assumption); (case' m99 => wtm_at "mo")))
local macro_rules | `(tactic| wtm_at "hp") => `(tactic| first
  | assumption
  | ((with_reducible refine' Mx.get0 ?m1 ?h1); (case' m1 => assumption); (case' h1 => wtm_at "hp"))
  | ((with_reducible refine' Mx.get ?m2 ?n2 ?h2); (case' m2 => assumption); (case' n2 => wtm_at "nin"); (case' h2 => wtm_at "hp")))
local macro_rules | `(tactic| wtm_at "sl") => `(tactic| first
  | assumption
  | ((with_reducible refine' Mx.sqL0 ?m96 ?h96); (case' h96 => assumption); (case' m96 => wtm_at "mo"))
  | (refine' SqL.of ?h3; (case' h3 => wtm_at "hp"))
  | ((with_reducible refine' Mx.sqL0 ?m4 ?h4); (case' m4 => assumption); (case' h4 => wtm_at "sl"))
  | ((with_reducible refine' Mx.sqL ?m5 ?n5 ?h5); (case' m5 => assumption); (case' n5 => wtm_at "nin"); (case' h5 => wtm_at "sl")))
local macro_rules | `(tactic| wtm_at "st") => `(tactic| first
  | assumption
  | ((with_reducible refine' Mx.sqT0 ?m97 ?h97); (case' h97 => assumption); (case' m97 => wtm_at "mo"))
  | (refine' SqT.of ?h6; (case' h6 => wtm_at "hp"))
  | ((with_reducible refine' Mx.sqT0 ?m7 ?h7); (case' m7 => assumption); (case' h7 => wtm_at "st"))
  | ((with_reducible refine' Mx.sqT ?m8 ?n8 ?h8); (case' m8 => assumption); (case' n8 => wtm_at "nin"); (case' h8 => wtm_at "st")))
local macro_rules | `(tactic| wtm_at "mx") => `(tactic| first
  | assumption
  | exact Mx.refl
  | ((with_reducible refine' Mx.of0 ?h9); (case' h9 => assumption))
  | ((with_reducible refine' Mx.trans ?h10 ?m10); (case' m10 => first | assumption | ((with_reducible refine' Mx.of0 ?q10); (case' q10 => assumption))); (case' h10 => wtm_at "mx")))
local macro_rules | `(tactic| wtm_at "mo") => `(tactic| first
  | wtm_at "mx"
  | ((with_reducible refine' Mx.own ?m90 ?f90 ?k90); (case' k90 => assumption); (case' f90 => wtm_at "fr"); (case' m90 => wtm_at "mo"))
  | ((with_reducible refine' Mx.trans ?h91 ?m91); (case' m91 => first | assumption | ((with_reducible refine' Mx.of0 ?q91); (case' q91 => assumption))); (case' h91 => wtm_at "mo")))
local macro_rules | `(tactic| wtm_at "ne") => `(tactic| first
  | assumption
  | exact Ne.symm (by assumption)
  | ((with_reducible refine' ne_of_none ?x94 ?y94); (case' y94 => assumption); (case' x94 => wtm_at "hp"))
  | ((with_reducible refine' Ne.symm (ne_of_none ?x95 ?y95)); (case' y95 => assumption); (case' x95 => wtm_at "hp")))
local macro_rules | `(tactic| wtm_at "nin") => `(tactic| first
  | assumption
  | exact List.not_mem_nil
  | ((with_reducible refine' List.not_mem_cons_of_ne_of_not_mem ?h98 ?t98); (case' h98 => wtm_at "ne"); (case' t98 => wtm_at "nin")))
local macro_rules | `(tactic| wtm_at "g1") => `(tactic| first
  | ((with_reducible refine' g_var ?h11 ?k11); (case' h11 => exact rfl))
  | with_reducible refine' g_c ?_
  | with_reducible refine' g_op ?_
  | with_reducible refine' g_I0 ?_
  | ((with_reducible refine' g_I ?c12 ?k12); (case' c12 => wtm_at "ar"))
  | with_reducible refine' g_cons ?_
  | with_reducible refine' g_nil ?_
  | with_reducible refine' g_seq ?_
  | with_reducible refine' g_asg ?_
  | with_reducible refine' g_name ?_
  | with_reducible refine' g_ret ?_
  | with_reducible refine' g_if ?_
  | with_reducible refine' g_test ?_
  | with_reducible refine' g_tB ?_
  | with_reducible refine' g_bl ?_
  | ((with_reducible refine' g_eq ?h13 ?k13); (case' h13 => exact rfl))
  | ((with_reducible refine' g_ne ?h14 ?k14); (case' h14 => exact rfl))
  | with_reducible refine' g_CB ?_
  | with_reducible refine' g_call ?_
  | with_reducible refine' g_drop ?_
  | with_reducible refine' g_next ?_
  | with_reducible refine' g_not ?_
  | with_reducible refine' g_and ?_
  | with_reducible refine' g_or ?_
  | with_reducible refine' g_un ?_
  | with_reducible refine' g_U ?_
  | with_reducible refine' g_tup ?_
  | with_reducible refine' g_lst ?_
  | ((with_reducible refine' g_kNew ?h15 ?k15); (case' h15 => wtm_at "ln"); (case' k15 => intro _ _ _ _ _))
  | ((with_reducible refine' g_ixL ?h16 ?a16 ?k16); (case' h16 => wtm_at "sl"); (case' a16 => wtm_at "at"))
  | ((with_reducible refine' g_ixT ?h17 ?a17 ?k17); (case' h17 => wtm_at "st"); (case' a17 => wtm_at "at"))
  | with_reducible refine' g_slice ?_
  | with_reducible refine' g_part ?_
  | with_reducible refine' g_kPart ?_
  | with_reducible refine' g_noPart ?_
  | ((with_reducible refine' g_slL ?h18 ?k18); (case' h18 => wtm_at "sl"); (case' k18 => intro _ _ _ _ _))
  | ((with_reducible refine' g_cat ?h119 ?h219 ?l19 ?k19); (case' h119 => wtm_at "hp"); (case' h219 => wtm_at "hp"); (case' l19 => wtm_at "ln"); (case' k19 => intro _ _ _ _ _))
  | ((with_reducible refine' g_rep ?h120 ?h220 ?h320 ?l20 ?k20); (case' h120 => wtm_at "hp"); (case' h220 => wtm_at "ln"); (case' h320 => wtm_at "ln"); (case' l20 => wtm_at "ln"); (case' k20 => intro _ _ _ _ _))
  | ((with_reducible refine' g_append ?h21 ?l21 ?k21); (case' h21 => wtm_at "hp"); (case' l21 => wtm_at "ln"); (case' k21 => intro _ _ _))
  | ((with_reducible refine' g_kBM ?h22 ?k22); (case' h22 => wtm_at "sl"))
  | ((with_reducible refine' g_kBM0 ?h23 ?k23); (case' h23 => wtm_at "sl"))
  | ((with_reducible refine' g_kL ?h24 ?k24); (case' h24 => wtm_at "sl"))
  | ((with_reducible refine' g_kR1 ?h125 ?h225 ?k25); (case' h125 => wtm_at "ln"); (case' h225 => wtm_at "ln"))
  | ((with_reducible refine' g_kR2 ?h126 ?h226 ?h326 ?h426 ?k26); (case' h126 => wtm_at "ln"); (case' h226 => wtm_at "ln"); (case' h326 => wtm_at "ln"); (case' h426 => wtm_at "ln"))
  | ((with_reducible refine' g_lenL ?h27 ?k27); (case' h27 => wtm_at "sl"))
  | ((with_reducible refine' g_lenT ?h28 ?k28); (case' h28 => wtm_at "st"))
  | ((with_reducible refine' g_listL ?h29 ?k29); (case' h29 => wtm_at "sl"); (case' k29 => intro _ _ _ _ _))
  | ((with_reducible refine' g_tupleL ?h30 ?k30); (case' h30 => wtm_at "sl"); (case' k30 => intro _ _ _ _ _))
  | with_reducible refine' g_max ?_
  | with_reducible refine' g_min ?_
  | with_reducible refine' g_intB ?_
  | with_reducible refine' g_fld ?_
  | with_reducible refine' g_put ?_
  | with_reducible refine' g_dget ?_
  | with_reducible refine' g_isN ?_
  | with_reducible refine' g_notN ?_
  | with_reducible refine' g_ifE ?_
  | with_reducible refine' g_andV ?_
  | with_reducible refine' g_orV ?_
  | with_reducible refine' g_notV ?_
  | with_reducible refine' g_kIf ?_
  | with_reducible refine' g_chain ?_
  | with_reducible refine' g_kCh ?_
  | with_reducible refine' g_sub ?_
  | ((with_reducible refine' g_setI ?h92 ?e92 ?j92 ?k92); (case' h92 => wtm_at "hp"); (case' e92 => first | exact rfl | assumption); (case' j92 => wtm_at "ln"); (case' k92 => intro _ _ _))
  | ((with_reducible refine' g_setL ?h89 ?i89 ?k89); (case' h89 => wtm_at "hp"); (case' i89 => exact ixE rfl (by wtm_at "ln")); (case' k89 => intro _ _ _))
  | ((with_reducible refine' g_gtup ?h93 ?e93 ?k93); (case' h93 => wtm_at "st"); (case' e93 => exact rfl))
  | with_reducible refine' g_gcons ?_
  | with_reducible refine' g_gnil ?_
  | with_reducible refine' g_par ?_
  | with_reducible refine' g_kPar ?_
  | with_reducible refine' g_meth ?_
  | with_reducible refine' g_bm ?_
  | with_reducible refine' g_bm0 ?_
  | with_reducible refine' g_raise ?_
  | with_reducible refine' g_for ?_
  | with_reducible refine' g_iR1 ?_
  | with_reducible refine' g_iR2 ?_
  | with_reducible refine' g_iL ?_
  | with_reducible refine' g_lc ?_
  | with_reducible refine' g_retN ?_
  | with_reducible refine' g_no (b := false) rfl ?_
  | with_reducible refine' g_yes (b := true) rfl ?_)
local macro_rules | `(tactic| wtm_at "go") => `(tactic| repeat (wtm_at "g1"))
local macro_rules | `(tactic| wtm_at "gs") => `(tactic| repeat ((fail_if_success (with_reducible refine' g_ifE ?_)); wtm_at "g1"))
local macro_rules | `(tactic| wtm_at "gi") => `(tactic| repeat ((fail_if_success (with_reducible refine' g_if ?_)); wtm_at "g1"))
local macro_rules | `(tactic| wtm_at "gr") => `(tactic| repeat ((fail_if_success (with_reducible refine' g_ret ?_)); wtm_at "g1"))
local macro_rules | `(tactic| wtm_at "gq") => `(tactic| repeat ((fail_if_success (with_reducible refine' g_asg ?_)); wtm_at "g1"))
/-! ### the plain law: one sum, each stamp once -/
def sumA (ss : List (Int × Int)) : Int := (ss.map (·.2)).sum
theorem sumA_app (ss : List (Int × Int)) (s : Int × Int) : sumA (ss ++ [s]) = sumA ss + s.2 := by
  unfold sumA
  rw [List.map_append, List.sum_append]
  simp
/-- numbered from 1 on, each of 1 at the least -/
structure Nb (ss : List (Int × Int)) : Prop where
  n : ss.map (·.1) = (List.range ss.length).map fun (i : Nat) => (1 : Int) + i
  a : ∀ s ∈ ss, 1 ≤ s.2
theorem Nb.nil : Nb [] := ⟨rfl, by simp⟩
theorem Nb.app {ss : List (Int × Int)} {a : Int} (h : Nb ss) (ha : 1 ≤ a) : Nb (ss ++ [((ss.length : Int) + 1, a)]) := by
  refine ⟨?_, fun s hs => ?_⟩
  · rw [List.map_append, List.length_append, h.n]
    show _ = List.map _ (List.range (ss.length + 1))
    rw [List.range_succ, List.map_append]
    simp [Int.add_comm]
  · rcases List.mem_append.mp hs with z | z
    · exact h.a s z
    · simp at z; rw [z]; exact ha
theorem Nb.last {ss : List (Int × Int)} (h : Nb ss) : lastNo ss = ss.length := by
  unfold lastNo
  cases e : ss.getLast? with
  | none =>
    rw [List.getLast?_eq_none_iff] at e
    rw [e]
    rfl
  | some s =>
    rw [List.getLast?_eq_getElem?] at e
    have h1 : (ss.map (·.1))[ss.length - 1]? = some s.1 := by rw [List.getElem?_map, e]; rfl
    have hl := (List.getElem?_eq_some_iff.mp e).1
    rw [h.n, List.getElem?_map, List.getElem?_range hl] at h1
    simp at h1
    show s.1 = _
    omega
/-- what stands goes together -/
structure Gc (μ : Mt) : Prop where
  sm : bk μ 2 + bk μ 3 = bk μ 4
  r0 : 0 ≤ bk μ 2
  f0 : 0 ≤ bk μ 3
  nb : Nb μ.stamps
  st : (bk μ 8 = μ.stamps.length ∧ bk μ 2 = sumA μ.stamps) ∨ (bk μ 8 = μ.stamps.length + 1 ∧ bk μ 2 = sumA μ.stamps + bk μ 9 ∧ 1 ≤ bk μ 9)
/-- .. and one that is up owes nothing -/
structure Gd (μ : Mt) : Prop where
  c : Gc μ
  uo : μ.up = true → bk μ 8 = μ.stamps.length
theorem Fr.gd {μ : Mt} (h : Fr μ) : Gd μ := by
  refine ⟨⟨?_, ?_, h.b3, ?_, .inl ⟨?_, ?_⟩⟩, fun _ => ?_⟩
  · have := h.b2; have := h.b4; omega
  · have := h.b2; omega
  · rw [h.st]; exact Nb.nil
  · rw [h.st, h.b8]; rfl
  · rw [h.st, h.b2]; rfl
  · rw [h.st, h.b8]; rfl
theorem Gc.ow {μ : Mt} (h : Gc μ) (z : bk μ 8 = μ.stamps.length) : owed μ = none := by
  unfold owed
  rw [h.nb.last, z, if_neg (by omega)]
theorem Gc.ow1 {μ : Mt} (h : Gc μ) (z : bk μ 8 = μ.stamps.length + 1) : owed μ = some ((μ.stamps.length : Int) + 1, bk μ 9) := by
  unfold owed
  rw [h.nb.last, z, if_pos (by omega)]
theorem Gd.upst {μ : Mt} (h : Gd μ) (u : μ.up = true) : bk μ 8 = μ.stamps.length ∧ bk μ 2 = sumA μ.stamps := by
  rcases h.c.st with z | z
  · exact z
  · have := h.uo u; omega
/-- by the same bank -/
theorem Gc.of {μ μ' : Mt} (h : Gc μ) (e : ∀ i, bk μ' i = bk μ i) (s : μ'.stamps = μ.stamps) : Gc μ' :=
  ⟨by rw [e, e, e]; exact h.sm, by rw [e]; exact h.r0, by rw [e]; exact h.f0, by rw [s]; exact h.nb, by rw [e, e, e, s]; exact h.st⟩
/-- printing what is owed -/
theorem Gc.print {μ : Mt} (h : Gc μ) (cut : Option Nat) : Gc (printM μ cut).2 ∧ ((printM μ cut).1 = true → bk (printM μ cut).2 8 = (printM μ cut).2.stamps.length) ∧ ((printM μ cut).1 = false → (printM μ cut).2.up = false) := by
  rcases h.st with z | z
  · have o := h.ow z.1
    have e : printM μ cut = (true, μ) := by simp only [printM, o]
    rw [e]
    exact ⟨h, fun _ => z.1, fun z => by cases z⟩
  · have o := h.ow1 z.1
    by_cases hc : cut = some 0
    · have e : printM μ cut = (false, { μ with up := false }) := by simp only [printM, o, hc, if_true]
      rw [e]
      exact ⟨h.of (fun _ => rfl) rfl, fun z => (by cases z), fun _ => rfl⟩
    · have e : printM μ cut = (true, { μ with stamps := μ.stamps ++ [((μ.stamps.length : Int) + 1, bk μ 9)] }) := by simp only [printM, o, hc, if_false]
      rw [e]
      have e8 : bk μ 8 = ((μ.stamps ++ [((μ.stamps.length : Int) + 1, bk μ 9)]).length : Nat) := by
        rw [z.1]
        simp
      refine ⟨⟨h.sm, h.r0, h.f0, h.nb.app z.2.2, .inl ⟨e8, ?_⟩⟩, fun _ => e8, fun z => by cases z⟩
      show bk μ 2 = sumA (μ.stamps ++ _)
      rw [sumA_app, z.2.1]
theorem Gc.printd {μ : Mt} (h : Gc μ) (cut : Option Nat) : Gd (printM μ cut).2 := by
  obtain ⟨a, b, c⟩ := h.print cut
  refine ⟨a, fun u => ?_⟩
  cases hb : (printM μ cut).1 with
  | true => exact b hb
  | false => rw [c hb] at u; cases u
theorem no_short {μ : Mt} {a : Int} (h : stampR μ a = none) : ¬ bk μ 3 < a := fun z => by
  simp only [stampR, if_pos z] at h
  split at h
  · cases h
  · split at h <;> cases h
theorem chs_gc {n : Nat} {μ : Mt} (W : Wf n μ) (h : Gd μ) {d : Dd} (hd : d ≠ .up) (hr : refR μ d = none) : Gc { μ with cells := wr μ.cells (stepsOf μ.cells (chsOf μ d)) 11 } := by
  have hu := ref_up hd hr
  have st := h.upst hu
  have hl := W.any.1
  have eb : ∀ i, bk { μ with cells := wr μ.cells (stepsOf μ.cells (chsOf μ d)) 11 } i = cl (news μ.cells (chsOf μ d)) i := bk_wr W.any (chsOf_ok μ d)
  have sm := h.c.sm
  have r0 := h.c.r0
  have f0 := h.c.f0
  have nb := h.c.nb
  cases d with
  | up => exact absurd rfl hd
  | stamp a =>
    have ha : 1 ≤ a ∧ a ≤ 99999 := amt_bd fun z => by simp only [refR, stampR, z] at hr; split at hr <;> simp at hr
    have hs := no_short hr
    have e2 : cl (news μ.cells (chsOf μ (.stamp a))) 2 = bk μ 2 + a := news_at hl (l := []) (r := [(3, bk μ 3 - a), (8, bk μ 8 + 1), (9, a)]) rfl (by simp) (by decide)
    have e3 : cl (news μ.cells (chsOf μ (.stamp a))) 3 = bk μ 3 - a := news_at hl (l := [(2, bk μ 2 + a)]) (r := [(8, bk μ 8 + 1), (9, a)]) rfl (by simp) (by decide)
    have e4 : cl (news μ.cells (chsOf μ (.stamp a))) 4 = bk μ 4 := news_out (by simp [chsOf, stampChs]) (by decide)
    have e8 : cl (news μ.cells (chsOf μ (.stamp a))) 8 = bk μ 8 + 1 := news_at hl (l := [(2, bk μ 2 + a), (3, bk μ 3 - a)]) (r := [(9, a)]) rfl (by simp) (by decide)
    have e9 : cl (news μ.cells (chsOf μ (.stamp a))) 9 = a := news_at hl (l := [(2, bk μ 2 + a), (3, bk μ 3 - a), (8, bk μ 8 + 1)]) (r := []) rfl (by simp) (by decide)
    refine ⟨?_, ?_, ?_, nb, .inr ?_⟩
    · rw [eb, eb, eb, e2, e3, e4]; omega
    · rw [eb, e2]; omega
    · rw [eb, e3]; omega
    · rw [eb, eb, eb, e8, e9, e2, st.1, st.2]
      exact ⟨rfl, rfl, ha.1⟩
  | back a =>
    have hs := no_short hr
    have e2 : cl (news μ.cells (chsOf μ (.back a))) 2 = bk μ 2 := news_out (by simp [chsOf, backChs]) (by decide)
    have e3 : cl (news μ.cells (chsOf μ (.back a))) 3 = bk μ 3 - a := news_at hl (l := []) (r := [(4, bk μ 4 - a), (6, bk μ 6 + 1), (7, a)]) rfl (by simp) (by decide)
    have e4 : cl (news μ.cells (chsOf μ (.back a))) 4 = bk μ 4 - a := news_at hl (l := [(3, bk μ 3 - a)]) (r := [(6, bk μ 6 + 1), (7, a)]) rfl (by simp) (by decide)
    have e8 : cl (news μ.cells (chsOf μ (.back a))) 8 = bk μ 8 := news_out (by simp [chsOf, backChs]) (by decide)
    refine ⟨?_, ?_, ?_, nb, .inl ?_⟩
    · rw [eb, eb, eb, e2, e3, e4]; omega
    · rw [eb, e2]; omega
    · rw [eb, e3]; omega
    · rw [eb, eb, e8, e2]; exact st
  | top z =>
    have ha : 1 ≤ z.a ∧ z.a ≤ 99999 := amt_bd fun q => by simp only [refR, topR, good, q, Bool.and_false, Bool.false_and] at hr; split at hr <;> simp at hr
    have e2 : cl (news μ.cells (chsOf μ (.top z))) 2 = bk μ 2 := news_out (by simp [chsOf, topChsL]) (by decide)
    have e3 : cl (news μ.cells (chsOf μ (.top z))) 3 = bk μ 3 + z.a := news_at hl (l := []) (r := [(4, bk μ 4 + z.a), (5, bk μ 5 + 1)]) rfl (by simp) (by decide)
    have e4 : cl (news μ.cells (chsOf μ (.top z))) 4 = bk μ 4 + z.a := news_at hl (l := [(3, bk μ 3 + z.a)]) (r := [(5, bk μ 5 + 1)]) rfl (by simp) (by decide)
    have e8 : cl (news μ.cells (chsOf μ (.top z))) 8 = bk μ 8 := news_out (by simp [chsOf, topChsL]) (by decide)
    refine ⟨?_, ?_, ?_, nb, .inl ?_⟩
    · rw [eb, eb, eb, e2, e3, e4]; omega
    · rw [eb, e2]; omega
    · rw [eb, e3]; omega
    · rw [eb, eb, e8, e2]; exact st
theorem due_gd {n : Nat} {μ : Mt} (W : Wf n μ) (h : Gd μ) (d : Dd) (cut : Option Nat) : Gd (dueM μ d cut).2 := by
  by_cases hd : d = .up
  · subst hd
    by_cases hu : μ.up = true
    · have e : dueM μ .up cut = (.str "Up", μ) := if_pos hu
      rw [e]
      exact h
    · have e := (does_due W .up cut).2 (by simp [doesR, hu])
      rw [e]
      show Gd (upM μ cut).2
      obtain ⟨a, b, c⟩ := h.c.print cut
      unfold upM
      cases hb : (printM μ cut).1 with
      | true =>
        rw [if_pos rfl]
        exact ⟨a.of (fun _ => rfl) rfl, fun _ => b hb⟩
      | false =>
        rw [if_neg (by simp)]
        exact h.c.printd cut
  · cases hr : refR μ d with
    | some r => rw [dueM_ref hd hr]; exact h
    | none =>
      have hu := ref_up hd hr
      rw [dueM_run hd hr]
      show Gd (runM μ (chsOf μ d) cut).2
      unfold runM
      rcases writeM_cases μ (chsOf μ d) cut with ⟨k, _, hk, e⟩ | ⟨_, e⟩
      · rw [e]
        exact ⟨h.c.of (fun i => by unfold bk; rw [bank_wr_cut W.any hk]) rfl, fun z => by cases z⟩
      · rw [e]
        exact (chs_gc W h hd hr).printd _
/-- no stamp goes, one comes at the most -/
theorem print_pre (μ : Mt) (cut : Option Nat) : (printM μ cut).2.stamps = μ.stamps ∨ ∃ s, (printM μ cut).2.stamps = μ.stamps ++ [s] := by
  unfold printM
  cases owed μ with
  | none => exact .inl rfl
  | some s =>
    simp only
    split
    · exact .inl rfl
    · exact .inr ⟨s, rfl⟩
theorem due_pre (μ : Mt) (d : Dd) (cut : Option Nat) : (dueM μ d cut).2.stamps = μ.stamps ∨ ∃ s, (dueM μ d cut).2.stamps = μ.stamps ++ [s] := by
  by_cases hd : d = .up
  · subst hd
    by_cases hu : μ.up = true
    · have e : dueM μ .up cut = (.str "Up", μ) := if_pos hu
      rw [e]
      exact .inl rfl
    · cases eo : owed μ with
      | none =>
        have e : dueM μ .up cut = (.bool true, { μ with up := true }) := by simp [dueM, hu, eo]
        rw [e]
        exact .inl rfl
      | some s =>
        by_cases h0 : cut = some 0
        · have e : dueM μ .up cut = (.none, μ) := by simp [dueM, hu, eo, h0]
          rw [e]
          exact .inl rfl
        · have e : dueM μ .up cut = (.bool true, { μ with stamps := μ.stamps ++ [s], up := true }) := by simp [dueM, hu, eo, h0]
          rw [e]
          exact .inr ⟨s, rfl⟩
  · cases hr : refR μ d with
    | some r => rw [dueM_ref hd hr]; exact .inl rfl
    | none =>
      rw [dueM_run hd hr]
      show (runM μ (chsOf μ d) cut).2.stamps = _ ∨ ∃ s, (runM μ (chsOf μ d) cut).2.stamps = _
      unfold runM
      rcases writeM_cases μ (chsOf μ d) cut with ⟨k, _, hk, e⟩ | ⟨_, e⟩
      · rw [e]; exact .inl rfl
      · rw [e]; exact print_pre { μ with cells := wr μ.cells (stepsOf μ.cells (chsOf μ d)) 11 } _
/-- a number told is that of the last stamp -/
theorem stamp_told {n : Nat} {μ : Mt} (W : Wf n μ) (h : Gd μ) {a k : Int} {cut : Option Nat} (e : (dueM μ (.stamp a) cut).1 = .int k) : (dueM μ (.stamp a) cut).2.stamps = μ.stamps ++ [(k, a)] := by
  have hd : (Dd.stamp a) ≠ .up := by simp
  cases hr : refR μ (.stamp a) with
  | some r => rw [dueM_ref hd hr] at e; cases e
  | none =>
    have hu := ref_up hd hr
    have st := h.upst hu
    have hl := W.any.1
    rw [dueM_run hd hr] at e ⊢
    show (runM μ (chsOf μ (.stamp a)) cut).2.stamps = _
    have e : (if (runM μ (chsOf μ (.stamp a)) cut).1 = true then toldOf μ (.stamp a) else .none) = .int k := e
    cases hb : (runM μ (chsOf μ (.stamp a)) cut).1 with
    | false => rw [hb, if_neg (by simp)] at e; cases e
    | true =>
      rw [hb, if_pos rfl] at e
      have ek : k = bk μ 8 + 1 := by
        have : PyData.int (bk μ 8 + 1) = .int k := e
        cases this
        rfl
      unfold runM at hb ⊢
      rcases writeM_cases μ (chsOf μ (.stamp a)) cut with ⟨j, _, hj, ew⟩ | ⟨_, ew⟩
      · rw [ew] at hb; cases hb
      · rw [ew] at hb ⊢
        simp only at hb ⊢
        have e8 : cl (news μ.cells (chsOf μ (.stamp a))) 8 = bk μ 8 + 1 := news_at hl (l := [(2, bk μ 2 + a), (3, bk μ 3 - a)]) (r := [(9, a)]) rfl (by simp) (by decide)
        have e9 : cl (news μ.cells (chsOf μ (.stamp a))) 9 = a := news_at hl (l := [(2, bk μ 2 + a), (3, bk μ 3 - a), (8, bk μ 8 + 1)]) (r := []) rfl (by simp) (by decide)
        have eb : ∀ i, bk { μ with cells := wr μ.cells (stepsOf μ.cells (chsOf μ (.stamp a))) 11 } i = cl (news μ.cells (chsOf μ (.stamp a))) i := bk_wr W.any (chsOf_ok μ _)
        have eo : owed { μ with cells := wr μ.cells (stepsOf μ.cells (chsOf μ (.stamp a))) 11 } = some (k, a) := by
          unfold owed
          rw [eb, eb, e8, e9, ek]
          show (if lastNo μ.stamps < _ then _ else _) = _
          rw [h.c.nb.last, st.1, if_pos (by omega)]
        unfold printM at hb ⊢
        rw [eo] at hb ⊢
        simp only at hb ⊢
        split at hb
        · cases hb
        · rename_i hc
          rw [if_neg hc]
end Fk
namespace Fk
open PySem PySem.Spec PyProof.Rows L2
local macro_rules | `(tactic| wtm_at "ln") => `(tactic| first
  | omega
  | (simp only [List.length_cons, List.length_nil, List.length_map, List.length_append, List.length_replicate, List.length_take, List.length_drop, List.length_set]; omega)
  | (with_unfolding_all exact (by decide)))
local macro_rules | `(tactic| wtm_at "ar") => `(tactic| first
  | ((with_reducible show CMulW _ _); (refine' mulS ?_ ?_ <;> omega))
  | ((with_reducible show CDivW _ _); (refine' divS ?_ ?_ <;> omega))
  | ((with_reducible show CPow _ _); exact ⟨by decide, by decide, by decide⟩)
  | (show (0 : Int) < _; omega)
  | (with_unfolding_all exact (by decide)))
local macro_rules | `(tactic| wtm_at "at") => `(tactic| first
  | assumption
  | (refine' cl_atE ?e80 ?h80; (case' e80 => first | exact rfl | assumption); (case' h80 => wtm_at "ln"))
  | exact rfl)
local macro_rules | `(tactic| wtm_at "fr") => `(tactic| first
  | assumption
  | ((with_reducible refine' Mx.free0 ?m99 ?h99); (case' h99 => assumption); (case' m99 => wtm_at "mo")))
local macro_rules | `(tactic| wtm_at "hp") => `(tactic| first
  | assumption
  | ((with_reducible refine' Mx.get0 ?m1 ?h1); (case' m1 => assumption); (case' h1 => wtm_at "hp"))
  | ((with_reducible refine' Mx.get ?m2 ?n2 ?h2); (case' m2 => assumption); (case' n2 => wtm_at "nin"); (case' h2 => wtm_at "hp")))
local macro_rules | `(tactic| wtm_at "sl") => `(tactic| first
  | assumption
  | ((with_reducible refine' Mx.sqL0 ?m96 ?h96); (case' h96 => assumption); (case' m96 => wtm_at "mo"))
  | (refine' SqL.of ?h3; (case' h3 => wtm_at "hp"))
  | ((with_reducible refine' Mx.sqL0 ?m4 ?h4); (case' m4 => assumption); (case' h4 => wtm_at "sl"))
  | ((with_reducible refine' Mx.sqL ?m5 ?n5 ?h5); (case' m5 => assumption); (case' n5 => wtm_at "nin"); (case' h5 => wtm_at "sl")))
local macro_rules | `(tactic| wtm_at "st") => `(tactic| first
  | assumption
  | ((with_reducible refine' Mx.sqT0 ?m97 ?h97); (case' h97 => assumption); (case' m97 => wtm_at "mo"))
  | (refine' SqT.of ?h6; (case' h6 => wtm_at "hp"))
  | ((with_reducible refine' Mx.sqT0 ?m7 ?h7); (case' m7 => assumption); (case' h7 => wtm_at "st"))
  | ((with_reducible refine' Mx.sqT ?m8 ?n8 ?h8); (case' m8 => assumption); (case' n8 => wtm_at "nin"); (case' h8 => wtm_at "st")))
local macro_rules | `(tactic| wtm_at "mx") => `(tactic| first
  | assumption
  | exact Mx.refl
  | ((with_reducible refine' Mx.of0 ?h9); (case' h9 => assumption))
  | ((with_reducible refine' Mx.trans ?h10 ?m10); (case' m10 => first | assumption | ((with_reducible refine' Mx.of0 ?q10); (case' q10 => assumption))); (case' h10 => wtm_at "mx")))
local macro_rules | `(tactic| wtm_at "mo") => `(tactic| first
  | wtm_at "mx"
  | ((with_reducible refine' Mx.own ?m90 ?f90 ?k90); (case' k90 => assumption); (case' f90 => wtm_at "fr"); (case' m90 => wtm_at "mo"))
  | ((with_reducible refine' Mx.trans ?h91 ?m91); (case' m91 => first | assumption | ((with_reducible refine' Mx.of0 ?q91); (case' q91 => assumption))); (case' h91 => wtm_at "mo")))
local macro_rules | `(tactic| wtm_at "ne") => `(tactic| first
  | assumption
  | exact Ne.symm (by assumption)
  | ((with_reducible refine' ne_of_none ?x94 ?y94); (case' y94 => assumption); (case' x94 => wtm_at "hp"))
  | ((with_reducible refine' Ne.symm (ne_of_none ?x95 ?y95)); (case' y95 => assumption); (case' x95 => wtm_at "hp")))
local macro_rules | `(tactic| wtm_at "nin") => `(tactic| first
  | assumption
  | exact List.not_mem_nil
  | ((with_reducible refine' List.not_mem_cons_of_ne_of_not_mem ?h98 ?t98); (case' h98 => wtm_at "ne"); (case' t98 => wtm_at "nin")))
local macro_rules | `(tactic| wtm_at "g1") => `(tactic| first
  | ((with_reducible refine' g_var ?h11 ?k11); (case' h11 => exact rfl))
  | with_reducible refine' g_c ?_
  | with_reducible refine' g_op ?_
  | with_reducible refine' g_I0 ?_
  | ((with_reducible refine' g_I ?c12 ?k12); (case' c12 => wtm_at "ar"))
  | with_reducible refine' g_cons ?_
  | with_reducible refine' g_nil ?_
  | with_reducible refine' g_seq ?_
  | with_reducible refine' g_asg ?_
  | with_reducible refine' g_name ?_
  | with_reducible refine' g_ret ?_
  | with_reducible refine' g_if ?_
  | with_reducible refine' g_test ?_
  | with_reducible refine' g_tB ?_
  | with_reducible refine' g_bl ?_
  | ((with_reducible refine' g_eq ?h13 ?k13); (case' h13 => exact rfl))
  | ((with_reducible refine' g_ne ?h14 ?k14); (case' h14 => exact rfl))
  | with_reducible refine' g_CB ?_
  | with_reducible refine' g_call ?_
  | with_reducible refine' g_drop ?_
  | with_reducible refine' g_next ?_
  | with_reducible refine' g_not ?_
  | with_reducible refine' g_and ?_
  | with_reducible refine' g_or ?_
  | with_reducible refine' g_un ?_
  | with_reducible refine' g_U ?_
  | with_reducible refine' g_tup ?_
  | with_reducible refine' g_lst ?_
  | ((with_reducible refine' g_kNew ?h15 ?k15); (case' h15 => wtm_at "ln"); (case' k15 => intro _ _ _ _ _))
  | ((with_reducible refine' g_ixL ?h16 ?a16 ?k16); (case' h16 => wtm_at "sl"); (case' a16 => wtm_at "at"))
  | ((with_reducible refine' g_ixT ?h17 ?a17 ?k17); (case' h17 => wtm_at "st"); (case' a17 => wtm_at "at"))
  | with_reducible refine' g_slice ?_
  | with_reducible refine' g_part ?_
  | with_reducible refine' g_kPart ?_
  | with_reducible refine' g_noPart ?_
  | ((with_reducible refine' g_slL ?h18 ?k18); (case' h18 => wtm_at "sl"); (case' k18 => intro _ _ _ _ _))
  | ((with_reducible refine' g_cat ?h119 ?h219 ?l19 ?k19); (case' h119 => wtm_at "hp"); (case' h219 => wtm_at "hp"); (case' l19 => wtm_at "ln"); (case' k19 => intro _ _ _ _ _))
  | ((with_reducible refine' g_rep ?h120 ?h220 ?h320 ?l20 ?k20); (case' h120 => wtm_at "hp"); (case' h220 => wtm_at "ln"); (case' h320 => wtm_at "ln"); (case' l20 => wtm_at "ln"); (case' k20 => intro _ _ _ _ _))
  | ((with_reducible refine' g_append ?h21 ?l21 ?k21); (case' h21 => wtm_at "hp"); (case' l21 => wtm_at "ln"); (case' k21 => intro _ _ _))
  | ((with_reducible refine' g_kBM ?h22 ?k22); (case' h22 => wtm_at "sl"))
  | ((with_reducible refine' g_kBM0 ?h23 ?k23); (case' h23 => wtm_at "sl"))
  | ((with_reducible refine' g_kL ?h24 ?k24); (case' h24 => wtm_at "sl"))
  | ((with_reducible refine' g_kR1 ?h125 ?h225 ?k25); (case' h125 => wtm_at "ln"); (case' h225 => wtm_at "ln"))
  | ((with_reducible refine' g_kR2 ?h126 ?h226 ?h326 ?h426 ?k26); (case' h126 => wtm_at "ln"); (case' h226 => wtm_at "ln"); (case' h326 => wtm_at "ln"); (case' h426 => wtm_at "ln"))
  | ((with_reducible refine' g_lenL ?h27 ?k27); (case' h27 => wtm_at "sl"))
  | ((with_reducible refine' g_lenT ?h28 ?k28); (case' h28 => wtm_at "st"))
  | ((with_reducible refine' g_listL ?h29 ?k29); (case' h29 => wtm_at "sl"); (case' k29 => intro _ _ _ _ _))
  | ((with_reducible refine' g_tupleL ?h30 ?k30); (case' h30 => wtm_at "sl"); (case' k30 => intro _ _ _ _ _))
  | with_reducible refine' g_max ?_
  | with_reducible refine' g_min ?_
  | with_reducible refine' g_intB ?_
  | with_reducible refine' g_fld ?_
  | with_reducible refine' g_put ?_
  | with_reducible refine' g_dget ?_
  | with_reducible refine' g_isN ?_
  | with_reducible refine' g_notN ?_
  | with_reducible refine' g_ifE ?_
  | with_reducible refine' g_andV ?_
  | with_reducible refine' g_orV ?_
  | with_reducible refine' g_notV ?_
  | with_reducible refine' g_kIf ?_
  | with_reducible refine' g_chain ?_
  | with_reducible refine' g_kCh ?_
  | with_reducible refine' g_sub ?_
  | ((with_reducible refine' g_setI ?h92 ?e92 ?j92 ?k92); (case' h92 => wtm_at "hp"); (case' e92 => first | exact rfl | assumption); (case' j92 => wtm_at "ln"); (case' k92 => intro _ _ _))
  | ((with_reducible refine' g_setL ?h89 ?i89 ?k89); (case' h89 => wtm_at "hp"); (case' i89 => exact ixE rfl (by wtm_at "ln")); (case' k89 => intro _ _ _))
  | ((with_reducible refine' g_gtup ?h93 ?e93 ?k93); (case' h93 => wtm_at "st"); (case' e93 => exact rfl))
  | with_reducible refine' g_gcons ?_
  | with_reducible refine' g_gnil ?_
  | with_reducible refine' g_par ?_
  | with_reducible refine' g_kPar ?_
  | with_reducible refine' g_meth ?_
  | with_reducible refine' g_bm ?_
  | with_reducible refine' g_bm0 ?_
  | with_reducible refine' g_raise ?_
  | with_reducible refine' g_for ?_
  | with_reducible refine' g_iR1 ?_
  | with_reducible refine' g_iR2 ?_
  | with_reducible refine' g_iL ?_
  | with_reducible refine' g_lc ?_
  | with_reducible refine' g_retN ?_
  | with_reducible refine' g_no (b := false) rfl ?_
  | with_reducible refine' g_yes (b := true) rfl ?_)
local macro_rules | `(tactic| wtm_at "go") => `(tactic| repeat (wtm_at "g1"))
local macro_rules | `(tactic| wtm_at "gs") => `(tactic| repeat ((fail_if_success (with_reducible refine' g_ifE ?_)); wtm_at "g1"))
local macro_rules | `(tactic| wtm_at "gi") => `(tactic| repeat ((fail_if_success (with_reducible refine' g_if ?_)); wtm_at "g1"))
local macro_rules | `(tactic| wtm_at "gr") => `(tactic| repeat ((fail_if_success (with_reducible refine' g_ret ?_)); wtm_at "g1"))
local macro_rules | `(tactic| wtm_at "gq") => `(tactic| repeat ((fail_if_success (with_reducible refine' g_asg ?_)); wtm_at "g1"))
/-! ### sums, ranges as lists, slices -/
section
variable {X : Cx} (K : PySem.W.Frag)
theorem cSum (hc : X.calm = true) (e : X.K = K := by rfl) : CallR X (.builtin "sum") (rSum K) := e ▸ cr_sum hc
end
section
variable {K : PySem.W.Frag} {σ : L2.St} {H H' : Hp} {Q : VK} {x y : V} {ta tb : TE}
theorem g_tYes {QB : Bool → Hp → Prop} (k : QB true H) : tYes σ H QB := k
theorem g_sum {a : Addr} {ns : List Int} (h : SqL K H a (ns.map V.int)) (k : Q (.int ns.sum) H) : rSum K [.ref a] H Q := ⟨a, ns, rfl, h, k⟩
def kRg2 (x : V) (Q : VK) : VK := fun y H2 => ∃ i j, x = .int i ∧ y = .int j ∧ (RgOk i j ∧ ∀ q, H2 q = none → Q (.ref q) (upd H2 q (.lst (rgV i j))))
theorem g_lstRg2 (k : ta σ H fun x H1 => tb σ H1 (kRg2 x Q)) : tLstRg (tRg2 ta tb) σ H Q := k
theorem g_kRg2 {i j : Int} (h : RgOk i j) (k : ∀ q H', H q = none → Mx [] H H' → H' q = some (.lst (rgV i j)) → Q (.ref q) H') : kRg2 (.int i) Q (.int j) H := ⟨i, j, rfl, rfl, h, fun q hq => k q _ hq (.new hq) upd_same⟩
theorem cutV_take {ws : List V} {n : Nat} : cutV ws none (some (n : Int)) = ws.take n := by
  unfold cutV
  rw [HT.sIx_nat, HT.sIx_none, List.drop_zero, Nat.sub_zero]
  by_cases h : n ≤ ws.length
  · rw [Nat.min_eq_left h]
  · rw [Nat.min_eq_right (by omega), List.take_of_length_le (by omega), List.take_of_length_le (by omega)]
theorem cutV_drop {ws : List V} {n : Nat} : cutV ws (some (n : Int)) none = ws.drop n := by
  unfold cutV
  rw [HT.sIx_nat, HT.sIx_none]
  by_cases h : n ≤ ws.length
  · rw [Nat.min_eq_left h, List.take_of_length_le (by simp)]
  · rw [Nat.min_eq_right (by omega), Nat.sub_self, List.take_zero, List.drop_eq_nil_of_le (by omega)]
theorem fm_map {α : Type} (g : α → V) (l : List α) : (List.range l.length).filterMap (fun i => (l[i]?).map g) = l.map g := by
  have key : ∀ n, n ≤ l.length → (List.range n).filterMap (fun i => (l[i]?).map g) = (l.take n).map g := by
    intro n
    induction n with
    | zero => intro _; rfl
    | succ n ih =>
      intro h
      rw [range_fm, ih (by omega), List.take_add_one]
      have : l[n]? = some l[n] := List.getElem?_eq_getElem (by omega)
      rw [this, List.map_append]
      rfl
  rw [key _ (Nat.le_refl _), List.take_length]
/-- a list of stamps at an address -/
def LstAt (K : PySem.W.Frag) (H : Hp) (la : Addr) (ss : List (Int × Int)) : Prop := ∃ ws, H la = some (.lst ws) ∧ DpAll K H ws (ss.map stD)
theorem LstAt.mx {S : List Addr} {la : Addr} {ss : List (Int × Int)} (h : LstAt K H la ss) (m : Mx S H H') (n : NoTup H S) (f : la ∉ S) : LstAt K H' la ss := by
  obtain ⟨ws, e, d⟩ := h
  exact ⟨ws, m _ _ e f, m.sts n d⟩
theorem LstAt.mx0 {la : Addr} {ss : List (Int × Int)} (h : LstAt K H la ss) (m : Mx [] H H') : LstAt K H' la ss := h.mx m noTup0 (by simp)
theorem LstAt.extn {la : Addr} {ss : List (Int × Int)} (h : LstAt K H la ss) (e : LamX.ExtN H H') : LstAt K H' la ss := by
  obtain ⟨ws, e1, d⟩ := h
  exact ⟨ws, e _ _ e1 (fun _ z => nomatch z), extn_dpA e d⟩
theorem LstAt.ne {la : Addr} {ss : List (Int × Int)} (h : LstAt K H la ss) {x : Addr} (f : H x = none) : la ≠ x := by
  obtain ⟨ws, e1, d⟩ := h
  exact ne_of_none e1 f
end
end Fk
namespace Fk
open PySem PySem.Spec PyProof.Rows L2
local macro_rules | `(tactic| wtm_at "ln") => `(tactic| first
  | omega
  | (simp only [List.length_cons, List.length_nil, List.length_map, List.length_append, List.length_replicate, List.length_take, List.length_drop, List.length_set]; omega)
  | (with_unfolding_all exact (by decide)))
local macro_rules | `(tactic| wtm_at "ar") => `(tactic| first
  | ((with_reducible show CMulW _ _); (refine' mulS ?_ ?_ <;> omega))
  | ((with_reducible show CDivW _ _); (refine' divS ?_ ?_ <;> omega))
  | ((with_reducible show CPow _ _); exact ⟨by decide, by decide, by decide⟩)
  | (show (0 : Int) < _; omega)
  | (with_unfolding_all exact (by decide)))
local macro_rules | `(tactic| wtm_at "at") => `(tactic| first
  | assumption
  | (refine' cl_atE ?e80 ?h80; (case' e80 => first | exact rfl | assumption); (case' h80 => wtm_at "ln"))
  | exact rfl)
local macro_rules | `(tactic| wtm_at "fr") => `(tactic| first
  | assumption
  | ((with_reducible refine' Mx.free0 ?m99 ?h99); (case' h99 => assumption); (case' m99 => wtm_at "mo")))
local macro_rules | `(tactic| wtm_at "hp") => `(tactic| first
  | assumption
  | ((with_reducible refine' Mx.get0 ?m1 ?h1); (case' m1 => assumption); (case' h1 => wtm_at "hp"))
  | ((with_reducible refine' Mx.get ?m2 ?n2 ?h2); (case' m2 => assumption); (case' n2 => wtm_at "nin"); (case' h2 => wtm_at "hp")))
local macro_rules | `(tactic| wtm_at "sl") => `(tactic| first
  | assumption
  | ((with_reducible refine' Mx.sqL0 ?m96 ?h96); (case' h96 => assumption); (case' m96 => wtm_at "mo"))
  | (refine' SqL.of ?h3; (case' h3 => wtm_at "hp"))
  | ((with_reducible refine' Mx.sqL0 ?m4 ?h4); (case' m4 => assumption); (case' h4 => wtm_at "sl"))
  | ((with_reducible refine' Mx.sqL ?m5 ?n5 ?h5); (case' m5 => assumption); (case' n5 => wtm_at "nin"); (case' h5 => wtm_at "sl")))
local macro_rules | `(tactic| wtm_at "st") => `(tactic| first
  | assumption
  | ((with_reducible refine' Mx.sqT0 ?m97 ?h97); (case' h97 => assumption); (case' m97 => wtm_at "mo"))
  | (refine' SqT.of ?h6; (case' h6 => wtm_at "hp"))
  | ((with_reducible refine' Mx.sqT0 ?m7 ?h7); (case' m7 => assumption); (case' h7 => wtm_at "st"))
  | ((with_reducible refine' Mx.sqT ?m8 ?n8 ?h8); (case' m8 => assumption); (case' n8 => wtm_at "nin"); (case' h8 => wtm_at "st")))
local macro_rules | `(tactic| wtm_at "mx") => `(tactic| first
  | assumption
  | exact Mx.refl
  | ((with_reducible refine' Mx.of0 ?h9); (case' h9 => assumption))
  | ((with_reducible refine' Mx.trans ?h10 ?m10); (case' m10 => first | assumption | ((with_reducible refine' Mx.of0 ?q10); (case' q10 => assumption))); (case' h10 => wtm_at "mx")))
local macro_rules | `(tactic| wtm_at "mo") => `(tactic| first
  | wtm_at "mx"
  | ((with_reducible refine' Mx.own ?m90 ?f90 ?k90); (case' k90 => assumption); (case' f90 => wtm_at "fr"); (case' m90 => wtm_at "mo"))
  | ((with_reducible refine' Mx.trans ?h91 ?m91); (case' m91 => first | assumption | ((with_reducible refine' Mx.of0 ?q91); (case' q91 => assumption))); (case' h91 => wtm_at "mo")))
local macro_rules | `(tactic| wtm_at "ne") => `(tactic| first
  | assumption
  | exact Ne.symm (by assumption)
  | ((with_reducible refine' ne_of_none ?x94 ?y94); (case' y94 => assumption); (case' x94 => wtm_at "hp"))
  | ((with_reducible refine' Ne.symm (ne_of_none ?x95 ?y95)); (case' y95 => assumption); (case' x95 => wtm_at "hp")))
local macro_rules | `(tactic| wtm_at "nin") => `(tactic| first
  | assumption
  | exact List.not_mem_nil
  | ((with_reducible refine' List.not_mem_cons_of_ne_of_not_mem ?h98 ?t98); (case' h98 => wtm_at "ne"); (case' t98 => wtm_at "nin")))
local macro_rules | `(tactic| wtm_at "g1") => `(tactic| first
  | ((with_reducible refine' g_var ?h11 ?k11); (case' h11 => exact rfl))
  | with_reducible refine' g_c ?_
  | with_reducible refine' g_op ?_
  | with_reducible refine' g_I0 ?_
  | ((with_reducible refine' g_I ?c12 ?k12); (case' c12 => wtm_at "ar"))
  | with_reducible refine' g_cons ?_
  | with_reducible refine' g_nil ?_
  | with_reducible refine' g_seq ?_
  | with_reducible refine' g_asg ?_
  | with_reducible refine' g_name ?_
  | with_reducible refine' g_ret ?_
  | with_reducible refine' g_if ?_
  | with_reducible refine' g_test ?_
  | with_reducible refine' g_tB ?_
  | with_reducible refine' g_bl ?_
  | ((with_reducible refine' g_eq ?h13 ?k13); (case' h13 => exact rfl))
  | ((with_reducible refine' g_ne ?h14 ?k14); (case' h14 => exact rfl))
  | with_reducible refine' g_CB ?_
  | with_reducible refine' g_call ?_
  | with_reducible refine' g_drop ?_
  | with_reducible refine' g_next ?_
  | with_reducible refine' g_not ?_
  | with_reducible refine' g_and ?_
  | with_reducible refine' g_or ?_
  | with_reducible refine' g_un ?_
  | with_reducible refine' g_U ?_
  | with_reducible refine' g_tup ?_
  | with_reducible refine' g_lst ?_
  | ((with_reducible refine' g_kNew ?h15 ?k15); (case' h15 => wtm_at "ln"); (case' k15 => intro _ _ _ _ _))
  | ((with_reducible refine' g_ixL ?h16 ?a16 ?k16); (case' h16 => wtm_at "sl"); (case' a16 => wtm_at "at"))
  | ((with_reducible refine' g_ixT ?h17 ?a17 ?k17); (case' h17 => wtm_at "st"); (case' a17 => wtm_at "at"))
  | with_reducible refine' g_slice ?_
  | with_reducible refine' g_part ?_
  | with_reducible refine' g_kPart ?_
  | with_reducible refine' g_noPart ?_
  | ((with_reducible refine' g_slL ?h18 ?k18); (case' h18 => wtm_at "sl"); (case' k18 => intro _ _ _ _ _))
  | ((with_reducible refine' g_cat ?h119 ?h219 ?l19 ?k19); (case' h119 => wtm_at "hp"); (case' h219 => wtm_at "hp"); (case' l19 => wtm_at "ln"); (case' k19 => intro _ _ _ _ _))
  | ((with_reducible refine' g_rep ?h120 ?h220 ?h320 ?l20 ?k20); (case' h120 => wtm_at "hp"); (case' h220 => wtm_at "ln"); (case' h320 => wtm_at "ln"); (case' l20 => wtm_at "ln"); (case' k20 => intro _ _ _ _ _))
  | ((with_reducible refine' g_append ?h21 ?l21 ?k21); (case' h21 => wtm_at "hp"); (case' l21 => wtm_at "ln"); (case' k21 => intro _ _ _))
  | ((with_reducible refine' g_kBM ?h22 ?k22); (case' h22 => wtm_at "sl"))
  | ((with_reducible refine' g_kBM0 ?h23 ?k23); (case' h23 => wtm_at "sl"))
  | ((with_reducible refine' g_kL ?h24 ?k24); (case' h24 => wtm_at "sl"))
  | ((with_reducible refine' g_kR1 ?h125 ?h225 ?k25); (case' h125 => wtm_at "ln"); (case' h225 => wtm_at "ln"))
  | ((with_reducible refine' g_kR2 ?h126 ?h226 ?h326 ?h426 ?k26); (case' h126 => wtm_at "ln"); (case' h226 => wtm_at "ln"); (case' h326 => wtm_at "ln"); (case' h426 => wtm_at "ln"))
  | ((with_reducible refine' g_lenL ?h27 ?k27); (case' h27 => wtm_at "sl"))
  | ((with_reducible refine' g_lenT ?h28 ?k28); (case' h28 => wtm_at "st"))
  | ((with_reducible refine' g_listL ?h29 ?k29); (case' h29 => wtm_at "sl"); (case' k29 => intro _ _ _ _ _))
  | ((with_reducible refine' g_tupleL ?h30 ?k30); (case' h30 => wtm_at "sl"); (case' k30 => intro _ _ _ _ _))
  | with_reducible refine' g_max ?_
  | with_reducible refine' g_min ?_
  | with_reducible refine' g_intB ?_
  | with_reducible refine' g_fld ?_
  | with_reducible refine' g_put ?_
  | with_reducible refine' g_dget ?_
  | with_reducible refine' g_isN ?_
  | with_reducible refine' g_notN ?_
  | with_reducible refine' g_ifE ?_
  | with_reducible refine' g_andV ?_
  | with_reducible refine' g_orV ?_
  | with_reducible refine' g_notV ?_
  | with_reducible refine' g_kIf ?_
  | with_reducible refine' g_chain ?_
  | with_reducible refine' g_kCh ?_
  | with_reducible refine' g_sub ?_
  | ((with_reducible refine' g_setI ?h92 ?e92 ?j92 ?k92); (case' h92 => wtm_at "hp"); (case' e92 => first | exact rfl | assumption); (case' j92 => wtm_at "ln"); (case' k92 => intro _ _ _))
  | ((with_reducible refine' g_setL ?h89 ?i89 ?k89); (case' h89 => wtm_at "hp"); (case' i89 => exact ixE rfl (by wtm_at "ln")); (case' k89 => intro _ _ _))
  | ((with_reducible refine' g_gtup ?h93 ?e93 ?k93); (case' h93 => wtm_at "st"); (case' e93 => exact rfl))
  | with_reducible refine' g_gcons ?_
  | with_reducible refine' g_gnil ?_
  | with_reducible refine' g_par ?_
  | with_reducible refine' g_kPar ?_
  | with_reducible refine' g_meth ?_
  | with_reducible refine' g_bm ?_
  | with_reducible refine' g_bm0 ?_
  | with_reducible refine' g_raise ?_
  | with_reducible refine' g_for ?_
  | with_reducible refine' g_iR1 ?_
  | with_reducible refine' g_iR2 ?_
  | with_reducible refine' g_iL ?_
  | with_reducible refine' g_lc ?_
  | with_reducible refine' g_retN ?_
  | with_reducible refine' g_no (b := false) rfl ?_
  | with_reducible refine' g_yes (b := true) rfl ?_)
local macro_rules | `(tactic| wtm_at "go") => `(tactic| repeat (wtm_at "g1"))
local macro_rules | `(tactic| wtm_at "gs") => `(tactic| repeat ((fail_if_success (with_reducible refine' g_ifE ?_)); wtm_at "g1"))
local macro_rules | `(tactic| wtm_at "gi") => `(tactic| repeat ((fail_if_success (with_reducible refine' g_if ?_)); wtm_at "g1"))
local macro_rules | `(tactic| wtm_at "gr") => `(tactic| repeat ((fail_if_success (with_reducible refine' g_ret ?_)); wtm_at "g1"))
local macro_rules | `(tactic| wtm_at "gq") => `(tactic| repeat ((fail_if_success (with_reducible refine' g_asg ?_)); wtm_at "g1"))
section
variable {P : Program} {w : World} {K : PySem.W.Frag} {mg : Str → Option Value} {base : Heap}
local macro_rules | `(tactic| wtm_at "g1") => `(tactic| first
  | ((with_reducible refine' g_fOwn (by assumption) ?h201 ?k201); (case' h201 => wtm_at "hp"))
  | ((with_reducible refine' g_fKey (by assumption) ?h202 ?k202); (case' h202 => wtm_at "hp"))
  | ((with_reducible refine' g_fMem (by assumption) ?h203 ?k203); (case' h203 => wtm_at "hp"))
  | ((with_reducible refine' g_fPri (by assumption) ?h204 ?k204); (case' h204 => wtm_at "hp"))
  | ((with_reducible refine' g_fAwa (by assumption) ?h205 ?k205); (case' h205 => wtm_at "hp"))
  | ((with_reducible refine' g_pAwa (by assumption) ?h206 ?k206); (case' h206 => wtm_at "hp"); (case' k206 => intro _ _ _))
  | ((with_reducible refine' g_kMeth ?h207 ?l207 ?k207); (case' h207 => wtm_at "hp"); (case' l207 => exact rfl)))

local macro_rules | `(tactic| wtm_at "g1") => `(tactic| first
  | ((with_reducible refine' g_dNum ?h311 ?k311); (case' h311 => wtm_at "hp"))
  | ((with_reducible refine' g_dKey ?h312 ?k312); (case' h312 => wtm_at "hp"))
  | ((with_reducible refine' g_dCe ?h313 ?k313); (case' h313 => wtm_at "hp"))
  | ((with_reducible refine' g_dSt ?h314 ?k314); (case' h314 => wtm_at "hp"))
  | ((with_reducible refine' g_dUp ?h315 ?k315); (case' h315 => wtm_at "hp"))
  | ((with_reducible refine' g_kDGetS ?h301 ?l301 ?k301); (case' h301 => wtm_at "hp"); (case' l301 => exact rfl))
  | (with_reducible refine' g_dput ?_)
  | (with_reducible refine' g_iK ?_)
  | ((with_reducible refine' g_disp ?k305); (case' k305 => intro _ _ _ _ _))
  | (with_reducible refine' g_pcons ?_)
  | (with_reducible refine' g_pnil ?_)
  | ((with_reducible refine' g_kDisp ?h306 ?e306 ?f306 ?l306 ?k306); (case' h306 => wtm_at "hp"); (case' e306 => exact rfl); (case' f306 => exact rfl); (case' l306 => wtm_at "ln"); (case' k306 => intro _ _ _))
  | ((with_reducible refine' g_pUp ?h302 ?k302); (case' h302 => wtm_at "hp"); (case' k302 => intro _ _ _))
  | ((with_reducible refine' g_pSt ?h303 ?k303); (case' h303 => wtm_at "hp"); (case' k303 => intro _ _ _))
  | ((with_reducible refine' g_pCe ?h304 ?k304); (case' h304 => wtm_at "hp"); (case' k304 => intro _ _ _)))

local macro_rules | `(tactic| wtm_at "dp") => `(tactic| first
  | assumption
  | ((with_reducible refine' Dp.mx ?m411 ?h411); (case' h411 => assumption); (case' m411 => wtm_at "mo")))
local macro_rules | `(tactic| wtm_at "kk") => `(tactic| first | exact kk_NoneType_tuple | exact kk_NoneType_list | exact kk_NoneType_str | exact kk_NoneType_bool | exact kk_NoneType_int | exact kk_bool_tuple | exact kk_bool_list | exact kk_bool_str | exact kk_bool_bool | exact kk_bool_int | exact kk_int_tuple | exact kk_int_list | exact kk_int_str | exact kk_int_bool | exact kk_int_int | exact kk_str_tuple | exact kk_str_list | exact kk_str_str | exact kk_str_bool | exact kk_str_int | exact kk_list_tuple | exact kk_list_list | exact kk_list_str | exact kk_list_bool | exact kk_list_int | exact kk_tuple_tuple | exact kk_tuple_list | exact kk_tuple_str | exact kk_tuple_bool | exact kk_tuple_int)
local macro_rules | `(tactic| wtm_at "ty") => `(tactic| first
  | assumption
  | ((with_reducible refine' TyX.mx ?m401 ?h401); (case' h401 => assumption); (case' m401 => wtm_at "mo")))
local macro_rules | `(tactic| wtm_at "g1") => `(tactic| first
  | ((with_reducible refine' g_isi ?t402 ?e402 ?k402); (case' t402 => wtm_at "ty"); (case' e402 => wtm_at "kk"))
  | ((with_reducible refine' g_isiT2 ?h403 ?t403 ?e403 ?f403 ?k403); (case' h403 => wtm_at "hp"); (case' t403 => wtm_at "ty"); (case' e403 => wtm_at "kk"); (case' f403 => wtm_at "kk"))
  | ((with_reducible refine' g_ixQL ?h404 ?a404 ?k404); (case' h404 => wtm_at "sl"); (case' a404 => wtm_at "at"))
  | ((with_reducible refine' g_ixQT ?h405 ?a405 ?k405); (case' h405 => wtm_at "st"); (case' a405 => wtm_at "at")))

/-- a drawn deed, done here and there -/
def spStep (T : Tx K mg) : Sp := fun vs H Q _ => ∃ (H0 : Hp) (r : Addr) (s : Sd) (n : Nat), vs = [.ref r, .ref s.p, .ref s.q] ∧ StAt K H0 H r ∧ SdAt K T.C_Meter H0 H r n s ∧ Gd s.μ ∧ LamX.Tabs (TL T) H ∧ NoTbl H0 ∧ n < 900 ∧
  ∀ t s' H', s'.p = s.p → s'.q = s.q → StAt K H0 H' r → SdAt K T.C_Meter H0 H' r (n + 1) s' → Gd s'.μ → LamX.Tabs (TL T) H' → Q (.ref t) H'
theorem ok__law_step (T : Tx K mg) (hne : True) (TB : LamX.TabB base mg T.f__law_step.c T.f__law_step.P) : FnOk P w K mg base (L2.CX P w) 9 T.f__law_step.a T.f__law_step.d ["_law_state", "_law_meter_here", "_law_m"] (spStep T) := by
  refine T.f__law_step.ok sc__law_step (fun vs H Q E h => ?_) (fun A outer s H vs Q E hr h => ?_)
  · obtain ⟨_, _, _, _, rfl, _⟩ := h
    rfl
  · obtain ⟨H0, r, s, n, rfl, S4, D4, G4, T4, nt0, hn, k⟩ := h
    refine ⟨_, (pss_cons (ps_set (i := 3) sc__law_step.nd rfl (Or.inr rfl) (q_call (c__law_deed T) hr (by decide) rfl (passes_call (takes_of rfl rfl rfl rfl) (fun _ _ _ _ h => h)) (pa_cons (pv 0) (pa_cons (pv 2) pa_nil))))
      (pss_cons (ps_set (i := 4) sc__law_step.nd rfl (Or.inr rfl) (q_call (c__law_cut T) hr (by decide) rfl (passes_call (takes_of rfl rfl rfl rfl) (fun _ _ _ _ h => h)) (pa_cons (pv 0) pa_nil)))
      (pss_cons (ps_expr (q_call (c__law_due T) hr (by decide) rfl (passes_call (takes_of rfl rfl rfl rfl) (fun _ _ _ _ h => h)) (pa_cons (pv 2) (pa_cons (pv 3) (pa_cons (pv 4) pa_nil)))))
      (pss_one (ps_ret (pe_tup (pa_cons (pv 3) (pa_cons (q_kind T TB rfl hr (LamX.lamS_by (sc := defScope s__law_step) (by decide +kernel)) rfl (fun _ _ _ _ _ => rfl) (fun A outer s H E f c2 hr => (q_call (c__law_does T) hr (by decide) rfl (passes_call (takes_of rfl rfl rfl rfl) (fun _ _ _ _ h => h)) (pa_cons (pv 1) (pa_cons (pv 3) (pa_cons (pv 4) pa_nil))))) rfl) pa_nil)))))))), ?_⟩
    wtm_at "go"
    refine side_deed D4 S4 (by omega) fun t d H5 hd m5 S5 D5 ft e5 => ?_
    have T5 := Tabs.mx T4 m5 S4.nx
    clear T4 m5 D4
    wtm_at "go"
    refine ⟨H0, r, rfl, S5, fun c H6 hc m6 S6 => ?_⟩
    have D6 := D5.mr m6 S5
    have T6 := Tabs.mx T5 m6 S5.nx
    have e6 := e5.mx m6 S5.nt
    clear T5 m6 S5 D5 e5
    wtm_at "go"
    refine side_due D6 S6 (by omega) e6 fun v qs' H7 hq m7 M7 => ?_
    have T7 := Tabs.mx T6 m7 D6.pr.l.nx
    have G7 := due_gd D6.wf G4 d c
    clear T6 D6 S6 m7 hq
    wtm_at "go"
    refine g_cut (fun Q' => ∀ v2 H9, StAt K H0 H9 r → SdAt K T.C_Meter H0 H9 r (n + 1) (s.nx qs' d c) → LamX.Tabs (TL T) H9 → Q' v2 H9) (fun Q' hQ => ?_) (fun v2 H9 S9 D9 T9 => ?_)
    · refine ⟨T7, fun H8 x8 T8 => ?_⟩
      have M8 := M7.extn nt0 x8
      obtain ⟨dx8, ob8⟩ := M8.m.ob
      unfold TKind
      wtm_at "go"
      exact side_does T M8 T8 (by omega) fun v2 H9 m9 T9 S9 D9 d9 d9' => hQ v2 H9 S9 D9 T9
    · wtm_at "go"
      rename_i t10 H10 n10 m10 e10
      exact k t10 (s.nx qs' d c) H10 rfl rfl (S9.mx0 m10) (D9.mx0 m10) G7 (Tabs.mx0 T9 m10)
theorem c__law_step (T : Tx K mg) (hne : True) (TB : LamX.TabB base mg T.f__law_step.c T.f__law_step.P) : Cl P w K mg base 9 "_law_step" (spStep T) [] := FcF.cl T.f__law_step (ok__law_step T hne TB)
end
end Fk
namespace Fk
open PySem PySem.Spec PyProof.Rows L2
local macro_rules | `(tactic| wtm_at "ln") => `(tactic| first
  | omega
  | (simp only [List.length_cons, List.length_nil, List.length_map, List.length_append, List.length_replicate, List.length_take, List.length_drop, List.length_set]; omega)
  | (with_unfolding_all exact (by decide)))
local macro_rules | `(tactic| wtm_at "ar") => `(tactic| first
  | ((with_reducible show CMulW _ _); (refine' mulS ?_ ?_ <;> omega))
  | ((with_reducible show CDivW _ _); (refine' divS ?_ ?_ <;> omega))
  | ((with_reducible show CPow _ _); exact ⟨by decide, by decide, by decide⟩)
  | (show (0 : Int) < _; omega)
  | (with_unfolding_all exact (by decide)))
local macro_rules | `(tactic| wtm_at "at") => `(tactic| first
  | assumption
  | (refine' cl_atE ?e80 ?h80; (case' e80 => first | exact rfl | assumption); (case' h80 => wtm_at "ln"))
  | exact rfl)
local macro_rules | `(tactic| wtm_at "fr") => `(tactic| first
  | assumption
  | ((with_reducible refine' Mx.free0 ?m99 ?h99); (case' h99 => assumption); (case' m99 => wtm_at "mo")))
local macro_rules | `(tactic| wtm_at "hp") => `(tactic| first
  | assumption
  | ((with_reducible refine' Mx.get0 ?m1 ?h1); (case' m1 => assumption); (case' h1 => wtm_at "hp"))
  | ((with_reducible refine' Mx.get ?m2 ?n2 ?h2); (case' m2 => assumption); (case' n2 => wtm_at "nin"); (case' h2 => wtm_at "hp")))
local macro_rules | `(tactic| wtm_at "sl") => `(tactic| first
  | assumption
  | ((with_reducible refine' Mx.sqL0 ?m96 ?h96); (case' h96 => assumption); (case' m96 => wtm_at "mo"))
  | (refine' SqL.of ?h3; (case' h3 => wtm_at "hp"))
  | ((with_reducible refine' Mx.sqL0 ?m4 ?h4); (case' m4 => assumption); (case' h4 => wtm_at "sl"))
  | ((with_reducible refine' Mx.sqL ?m5 ?n5 ?h5); (case' m5 => assumption); (case' n5 => wtm_at "nin"); (case' h5 => wtm_at "sl")))
local macro_rules | `(tactic| wtm_at "st") => `(tactic| first
  | assumption
  | ((with_reducible refine' Mx.sqT0 ?m97 ?h97); (case' h97 => assumption); (case' m97 => wtm_at "mo"))
  | (refine' SqT.of ?h6; (case' h6 => wtm_at "hp"))
  | ((with_reducible refine' Mx.sqT0 ?m7 ?h7); (case' m7 => assumption); (case' h7 => wtm_at "st"))
  | ((with_reducible refine' Mx.sqT ?m8 ?n8 ?h8); (case' m8 => assumption); (case' n8 => wtm_at "nin"); (case' h8 => wtm_at "st")))
local macro_rules | `(tactic| wtm_at "mx") => `(tactic| first
  | assumption
  | exact Mx.refl
  | ((with_reducible refine' Mx.of0 ?h9); (case' h9 => assumption))
  | ((with_reducible refine' Mx.trans ?h10 ?m10); (case' m10 => first | assumption | ((with_reducible refine' Mx.of0 ?q10); (case' q10 => assumption))); (case' h10 => wtm_at "mx")))
local macro_rules | `(tactic| wtm_at "mo") => `(tactic| first
  | wtm_at "mx"
  | ((with_reducible refine' Mx.own ?m90 ?f90 ?k90); (case' k90 => assumption); (case' f90 => wtm_at "fr"); (case' m90 => wtm_at "mo"))
  | ((with_reducible refine' Mx.trans ?h91 ?m91); (case' m91 => first | assumption | ((with_reducible refine' Mx.of0 ?q91); (case' q91 => assumption))); (case' h91 => wtm_at "mo")))
local macro_rules | `(tactic| wtm_at "ne") => `(tactic| first
  | assumption
  | exact Ne.symm (by assumption)
  | ((with_reducible refine' ne_of_none ?x94 ?y94); (case' y94 => assumption); (case' x94 => wtm_at "hp"))
  | ((with_reducible refine' Ne.symm (ne_of_none ?x95 ?y95)); (case' y95 => assumption); (case' x95 => wtm_at "hp")))
local macro_rules | `(tactic| wtm_at "nin") => `(tactic| first
  | assumption
  | exact List.not_mem_nil
  | ((with_reducible refine' List.not_mem_cons_of_ne_of_not_mem ?h98 ?t98); (case' h98 => wtm_at "ne"); (case' t98 => wtm_at "nin")))
local macro_rules | `(tactic| wtm_at "g1") => `(tactic| first
  | ((with_reducible refine' g_var ?h11 ?k11); (case' h11 => exact rfl))
  | with_reducible refine' g_c ?_
  | with_reducible refine' g_op ?_
  | with_reducible refine' g_I0 ?_
  | ((with_reducible refine' g_I ?c12 ?k12); (case' c12 => wtm_at "ar"))
  | with_reducible refine' g_cons ?_
  | with_reducible refine' g_nil ?_
  | with_reducible refine' g_seq ?_
  | with_reducible refine' g_asg ?_
  | with_reducible refine' g_name ?_
  | with_reducible refine' g_ret ?_
  | with_reducible refine' g_if ?_
  | with_reducible refine' g_test ?_
  | with_reducible refine' g_tB ?_
  | with_reducible refine' g_bl ?_
  | ((with_reducible refine' g_eq ?h13 ?k13); (case' h13 => exact rfl))
  | ((with_reducible refine' g_ne ?h14 ?k14); (case' h14 => exact rfl))
  | with_reducible refine' g_CB ?_
  | with_reducible refine' g_call ?_
  | with_reducible refine' g_drop ?_
  | with_reducible refine' g_next ?_
  | with_reducible refine' g_not ?_
  | with_reducible refine' g_and ?_
  | with_reducible refine' g_or ?_
  | with_reducible refine' g_un ?_
  | with_reducible refine' g_U ?_
  | with_reducible refine' g_tup ?_
  | with_reducible refine' g_lst ?_
  | ((with_reducible refine' g_kNew ?h15 ?k15); (case' h15 => wtm_at "ln"); (case' k15 => intro _ _ _ _ _))
  | ((with_reducible refine' g_ixL ?h16 ?a16 ?k16); (case' h16 => wtm_at "sl"); (case' a16 => wtm_at "at"))
  | ((with_reducible refine' g_ixT ?h17 ?a17 ?k17); (case' h17 => wtm_at "st"); (case' a17 => wtm_at "at"))
  | with_reducible refine' g_slice ?_
  | with_reducible refine' g_part ?_
  | with_reducible refine' g_kPart ?_
  | with_reducible refine' g_noPart ?_
  | ((with_reducible refine' g_slL ?h18 ?k18); (case' h18 => wtm_at "sl"); (case' k18 => intro _ _ _ _ _))
  | ((with_reducible refine' g_cat ?h119 ?h219 ?l19 ?k19); (case' h119 => wtm_at "hp"); (case' h219 => wtm_at "hp"); (case' l19 => wtm_at "ln"); (case' k19 => intro _ _ _ _ _))
  | ((with_reducible refine' g_rep ?h120 ?h220 ?h320 ?l20 ?k20); (case' h120 => wtm_at "hp"); (case' h220 => wtm_at "ln"); (case' h320 => wtm_at "ln"); (case' l20 => wtm_at "ln"); (case' k20 => intro _ _ _ _ _))
  | ((with_reducible refine' g_append ?h21 ?l21 ?k21); (case' h21 => wtm_at "hp"); (case' l21 => wtm_at "ln"); (case' k21 => intro _ _ _))
  | ((with_reducible refine' g_kBM ?h22 ?k22); (case' h22 => wtm_at "sl"))
  | ((with_reducible refine' g_kBM0 ?h23 ?k23); (case' h23 => wtm_at "sl"))
  | ((with_reducible refine' g_kL ?h24 ?k24); (case' h24 => wtm_at "sl"))
  | ((with_reducible refine' g_kR1 ?h125 ?h225 ?k25); (case' h125 => wtm_at "ln"); (case' h225 => wtm_at "ln"))
  | ((with_reducible refine' g_kR2 ?h126 ?h226 ?h326 ?h426 ?k26); (case' h126 => wtm_at "ln"); (case' h226 => wtm_at "ln"); (case' h326 => wtm_at "ln"); (case' h426 => wtm_at "ln"))
  | ((with_reducible refine' g_lenL ?h27 ?k27); (case' h27 => wtm_at "sl"))
  | ((with_reducible refine' g_lenT ?h28 ?k28); (case' h28 => wtm_at "st"))
  | ((with_reducible refine' g_listL ?h29 ?k29); (case' h29 => wtm_at "sl"); (case' k29 => intro _ _ _ _ _))
  | ((with_reducible refine' g_tupleL ?h30 ?k30); (case' h30 => wtm_at "sl"); (case' k30 => intro _ _ _ _ _))
  | with_reducible refine' g_max ?_
  | with_reducible refine' g_min ?_
  | with_reducible refine' g_intB ?_
  | with_reducible refine' g_fld ?_
  | with_reducible refine' g_put ?_
  | with_reducible refine' g_dget ?_
  | with_reducible refine' g_isN ?_
  | with_reducible refine' g_notN ?_
  | with_reducible refine' g_ifE ?_
  | with_reducible refine' g_andV ?_
  | with_reducible refine' g_orV ?_
  | with_reducible refine' g_notV ?_
  | with_reducible refine' g_kIf ?_
  | with_reducible refine' g_chain ?_
  | with_reducible refine' g_kCh ?_
  | with_reducible refine' g_sub ?_
  | ((with_reducible refine' g_setI ?h92 ?e92 ?j92 ?k92); (case' h92 => wtm_at "hp"); (case' e92 => first | exact rfl | assumption); (case' j92 => wtm_at "ln"); (case' k92 => intro _ _ _))
  | ((with_reducible refine' g_setL ?h89 ?i89 ?k89); (case' h89 => wtm_at "hp"); (case' i89 => exact ixE rfl (by wtm_at "ln")); (case' k89 => intro _ _ _))
  | ((with_reducible refine' g_gtup ?h93 ?e93 ?k93); (case' h93 => wtm_at "st"); (case' e93 => exact rfl))
  | with_reducible refine' g_gcons ?_
  | with_reducible refine' g_gnil ?_
  | with_reducible refine' g_par ?_
  | with_reducible refine' g_kPar ?_
  | with_reducible refine' g_meth ?_
  | with_reducible refine' g_bm ?_
  | with_reducible refine' g_bm0 ?_
  | with_reducible refine' g_raise ?_
  | with_reducible refine' g_for ?_
  | with_reducible refine' g_iR1 ?_
  | with_reducible refine' g_iR2 ?_
  | with_reducible refine' g_iL ?_
  | with_reducible refine' g_lc ?_
  | with_reducible refine' g_retN ?_
  | with_reducible refine' g_no (b := false) rfl ?_
  | with_reducible refine' g_yes (b := true) rfl ?_)
local macro_rules | `(tactic| wtm_at "go") => `(tactic| repeat (wtm_at "g1"))
local macro_rules | `(tactic| wtm_at "gs") => `(tactic| repeat ((fail_if_success (with_reducible refine' g_ifE ?_)); wtm_at "g1"))
local macro_rules | `(tactic| wtm_at "gi") => `(tactic| repeat ((fail_if_success (with_reducible refine' g_if ?_)); wtm_at "g1"))
local macro_rules | `(tactic| wtm_at "gr") => `(tactic| repeat ((fail_if_success (with_reducible refine' g_ret ?_)); wtm_at "g1"))
local macro_rules | `(tactic| wtm_at "gq") => `(tactic| repeat ((fail_if_success (with_reducible refine' g_asg ?_)); wtm_at "g1"))
/-! ### the plain law of the numbers that are drawn behind the script: they don't stay in one class -/
def PP : Nat := 2147483647
def gN (x : Nat) : Nat := (x * 48271 + 11) % 2147483647
def itN : Nat → Nat → Nat
  | 0, x => x
  | j + 1, x => gN (itN j x)
theorem gN_lt (x : Nat) : gN x < 2147483647 := Nat.mod_lt _ (by decide)
theorem itN_add (i j : Nat) (x : Nat) : itN (i + j) x = itN i (itN j x) := by
  induction i with
  | zero => rw [Nat.zero_add]; rfl
  | succ i ih => rw [Nat.succ_add]; show gN _ = gN _; rw [ih]
theorem pigeon : ∀ (n : Nat) (f : Nat → Nat), (∀ i, i ≤ n → f i < n) → ∃ i j, i < j ∧ j ≤ n ∧ f i = f j
  | 0, f, h => absurd (h 0 (Nat.le_refl _)) (Nat.not_lt_zero _)
  | n + 1, f, h => by
    by_cases hx : ∃ i, i ≤ n ∧ f i = f (n + 1)
    · obtain ⟨i, hi, e⟩ := hx
      exact ⟨i, n + 1, by omega, Nat.le_refl _, e⟩
    · have no : ∀ i, i ≤ n → f i ≠ f (n + 1) := fun i hi e => hx ⟨i, hi, e⟩
      obtain ⟨i, j, hij, hj, e⟩ := pigeon n (fun i => if f i = n then f (n + 1) else f i) (fun i hi => by
        have h1 := h i (by omega)
        have h2 := h (n + 1) (Nat.le_refl _)
        have h3 := no i hi
        show (if f i = n then f (n + 1) else f i) < n
        split <;> omega)
      refine ⟨i, j, hij, by omega, ?_⟩
      have n1 := no i (by omega)
      have n2 := no j hj
      have e : (if f i = n then f (n + 1) else f i) = (if f j = n then f (n + 1) else f j) := e
      split at e <;> split at e
      · omega
      · exact absurd e.symm n2
      · exact absurd e n1
      · exact e
/-! the number is prime -/
def chkP : Nat → Nat → Bool
  | 0, lo => !(Nat.beq (2147483647 % lo) 0)
  | f + 1, lo => chkP f lo && chkP f (lo + 2 ^ f)
theorem chkP_spec : ∀ (f lo : Nat), chkP f lo = true → ∀ d, lo ≤ d → d < lo + 2 ^ f → 2147483647 % d ≠ 0
  | 0, lo, h, d, h1, h2 => by
    have : d = lo := by simp at h2; omega
    subst this
    intro z
    simp [chkP, z] at h
  | f + 1, lo, h, d, h1, h2 => by
    simp only [chkP, Bool.and_eq_true] at h
    rw [Nat.pow_succ] at h2
    by_cases hd : d < lo + 2 ^ f
    · exact chkP_spec f lo h.1 d h1 hd
    · exact chkP_spec f (lo + 2 ^ f) h.2 d (by omega) (by omega)
theorem chkP_all : chkP 16 2 = true := by decide +kernel
theorem PP_prime (d : Nat) (h : d ∣ 2147483647) : d = 1 ∨ d = 2147483647 := by
  obtain ⟨e, he⟩ := h
  have small : ∀ x y : Nat, 2147483647 = x * y → x ≤ 65000 → x = 1 := fun x y hxy hx => by
    by_cases h0 : x = 0
    · subst h0; simp at hxy
    · by_cases h1 : x = 1
      · exact h1
      · exact absurd (Nat.mod_eq_zero_of_dvd ⟨y, hxy⟩) (chkP_spec 16 2 chkP_all x (by omega) (by omega))
  by_cases hd : d ≤ 65000
  · exact .inl (small d e he hd)
  · have hE : e ≤ 65000 := Classical.byContradiction fun z => by
      have h1 : 65001 * 65001 ≤ d * e := Nat.mul_le_mul (by omega) (by omega)
      omega
    have := small e d (by rw [Nat.mul_comm]; exact he) hE
    subst this
    right
    omega
theorem PP_mul {a b : Nat} (h : 2147483647 ∣ a * b) : 2147483647 ∣ a ∨ 2147483647 ∣ b := by
  rcases PP_prime (Nat.gcd 2147483647 b) (Nat.gcd_dvd_left _ _) with e | e
  · exact .inl (Nat.Coprime.dvd_of_dvd_mul_right e h)
  · exact .inr (e ▸ Nat.gcd_dvd_right 2147483647 b)
/-! the order of 48271 -/
def One (e : Nat) : Prop := 48271 ^ e % 2147483647 = 1
theorem one_mul' {a b : Nat} (h : One a) : 48271 ^ (a + b) % 2147483647 = 48271 ^ b % 2147483647 := by
  unfold One at h
  rw [Nat.pow_add, Nat.mul_mod, h, Nat.one_mul, Nat.mod_mod]
theorem One.mul {a : Nat} (h : One a) : ∀ k, One (a * k)
  | 0 => by unfold One; rw [Nat.mul_zero]
  | k + 1 => by
    have := One.mul h k
    unfold One
    rw [Nat.mul_succ, Nat.add_comm, one_mul' h]
    exact this
theorem One.mod {a b : Nat} (h : One a) (h2 : One b) : One (b % a) := by
  have e : a * (b / a) + b % a = b := Nat.div_add_mod b a
  have := one_mul' (b := b % a) (h.mul (b / a))
  rw [e] at this
  unfold One at h2 ⊢
  rw [← this, h2]
theorem One.gcd : ∀ (a b : Nat), One a → One b → One (Nat.gcd a b) := by
  intro a b
  induction a, b using Nat.gcd.induction with
  | H0 n => intro _ h; rw [Nat.gcd_zero_left]; exact h
  | H1 m n hm ih => intro h1 h2; rw [Nat.gcd_rec]; exact ih (h1.mod h2) h1
def pwm : Nat → Nat → Nat → Nat
  | 0, _, _ => 1
  | f + 1, b, e => if Nat.beq (e % 2) 1 then (pwm f (b * b % 2147483647) (e / 2) * b) % 2147483647 else pwm f (b * b % 2147483647) (e / 2)
theorem pwm_eq : ∀ (f b e : Nat), e < 2 ^ f → pwm f b e % 2147483647 = b ^ e % 2147483647
  | 0, b, e, h => by
    have : e = 0 := by simp at h; exact h
    subst this
    rfl
  | f + 1, b, e, h => by
    have ih := pwm_eq f (b * b % 2147483647) (e / 2) (by rw [Nat.pow_succ] at h; omega)
    rw [← Nat.pow_mod] at ih
    have e2 : (b * b) ^ (e / 2) = b ^ (2 * (e / 2)) := by rw [Nat.pow_mul, Nat.pow_two]
    rw [e2] at ih
    have hm := Nat.div_add_mod e 2
    unfold pwm
    by_cases h1 : e % 2 = 1
    · rw [if_pos (by rw [h1]; rfl), Nat.mod_mod, Nat.mul_mod, ih, ← Nat.mul_mod, ← Nat.pow_succ]
      congr 2
      omega
    · have h0 : e % 2 = 0 := by omega
      rw [if_neg (by rw [h0]; decide), ih]
      congr 2
      omega
theorem not_one {e : Nat} (c : Nat) (h : pwm 32 48271 e = c) (he : e < 2 ^ 32) (hc : c % 2147483647 ≠ 1) : ¬ One e := fun z => by
  have := pwm_eq 32 48271 e he
  unfold One at z
  rw [h, z] at this
  exact hc this
theorem one_all : One 2147483646 := by
  have := pwm_eq 32 48271 2147483646 (by decide)
  unfold One
  rw [← this]
  decide +kernel
theorem cop {q e : Nat} (hq : ∀ x, x < q + 1 → q % x = 0 → x = 1 ∨ x = q) (hp : 0 < q) (h : ¬ q ∣ e) : Nat.Coprime e q := by
  have d1 := Nat.gcd_dvd_right e q
  have d2 := Nat.gcd_dvd_left e q
  have hle := Nat.le_of_dvd hp d1
  rcases hq _ (by omega) (Nat.mod_eq_zero_of_dvd d1) with z | z
  · exact z
  · rw [z] at d2; exact absurd d2 h
theorem order_lt {k : Nat} (h0 : 0 < k) (hk : k < 2147483646) (h : One k) : False := by
  have hd := One.gcd k 2147483646 h one_all
  obtain ⟨e, he⟩ := Nat.gcd_dvd_right k 2147483646
  have hle := Nat.le_of_dvd h0 (Nat.gcd_dvd_left k 2147483646)
  generalize Nat.gcd k 2147483646 = d at hd he hle
  have he1 : e ≠ 1 := fun z => by rw [z] at he; omega
  have key : ∀ q c, q * c = 2147483646 → ¬ One c → ¬ q ∣ e := fun q c hqc hc ⟨f, hf⟩ => by
    have hq0 : 0 < q := Nat.pos_of_ne_zero fun z => by rw [z] at hqc; simp at hqc
    have : q * c = q * (d * f) := by rw [hqc, he, hf]; rw [← Nat.mul_assoc, Nat.mul_comm d q, Nat.mul_assoc]
    have := Nat.eq_of_mul_eq_mul_left hq0 this
    rw [this] at hc
    exact hc (hd.mul f)
  have k2 := key 2 1073741823 (by decide) (not_one _ rfl (by decide) (by decide +kernel))
  have k3 := key 3 715827882 (by decide) (not_one _ rfl (by decide) (by decide +kernel))
  have k7 := key 7 306783378 (by decide) (not_one _ rfl (by decide) (by decide +kernel))
  have k11 := key 11 195225786 (by decide) (not_one _ rfl (by decide) (by decide +kernel))
  have k31 := key 31 69273666 (by decide) (not_one _ rfl (by decide) (by decide +kernel))
  have k151 := key 151 14221746 (by decide) (not_one _ rfl (by decide) (by decide +kernel))
  have k331 := key 331 6487866 (by decide) (not_one _ rfl (by decide) (by decide +kernel))
  have c2 := cop (by decide +kernel) (by decide) k2
  have c3 := cop (by decide +kernel) (by decide) k3
  have c7 := cop (by decide +kernel) (by decide) k7
  have c11 := cop (by decide +kernel) (by decide) k11
  have c31 := cop (by decide +kernel) (by decide) k31
  have c151 := cop (by decide +kernel) (by decide) k151
  have c331 := cop (by decide +kernel) (by decide) k331
  have D0 : e ∣ 2 * (3 * (3 * (7 * (11 * (31 * (151 * 331)))))) := ⟨d, by rw [Nat.mul_comm e d, ← he]⟩
  have D1 := c2.dvd_of_dvd_mul_left D0
  have D2 := c3.dvd_of_dvd_mul_left D1
  have D3 := c3.dvd_of_dvd_mul_left D2
  have D4 := c7.dvd_of_dvd_mul_left D3
  have D5 := c11.dvd_of_dvd_mul_left D4
  have D6 := c31.dvd_of_dvd_mul_left D5
  have D7 := c151.dvd_of_dvd_mul_left D6
  have D8 : e ∣ 1 := c331.dvd_of_dvd_mul_left (by rw [Nat.mul_one]; exact D7)
  exact he1 (Nat.dvd_one.mp D8)
/-! the differences go on by the factor -/
theorem gN_int (x : Nat) : ∃ q : Int, ((gN x : Nat) : Int) = (x : Int) * 48271 + 11 - 2147483647 * q :=
  ⟨((x : Int) * 48271 + 11) / 2147483647, by unfold gN; omega⟩
theorem diff_go (x : Nat) : ∀ j : Nat, (2147483647 : Int) ∣ ((itN (j + 1) x : Nat) : Int) - (itN j x : Nat) - 48271 ^ j * (((itN 1 x : Nat) : Int) - (itN 0 x : Nat))
  | 0 => ⟨0, by rw [Int.pow_zero]; simp only [Nat.zero_add]; omega⟩
  | j + 1 => by
    obtain ⟨s, hs⟩ := diff_go x j
    obtain ⟨q1, h1⟩ := gN_int (itN (j + 1) x)
    obtain ⟨q2, h2⟩ := gN_int (itN j x)
    refine ⟨48271 * s - q1 + q2, ?_⟩
    have e1 : itN (j + 1 + 1) x = gN (itN (j + 1) x) := rfl
    have e2 : itN (j + 1) x = gN (itN j x) := rfl
    rw [e1, h1]
    rw [Int.pow_succ]
    have e3 : ((itN (j + 1) x : Nat) : Int) = (itN j x : Nat) * 48271 + 11 - 2147483647 * q2 := by rw [e2]; exact h2
    have m : (48271 : Int) ^ j * 48271 * (((itN 1 x : Nat) : Int) - (itN 0 x : Nat)) = 48271 * (48271 ^ j * (((itN 1 x : Nat) : Int) - (itN 0 x : Nat))) := by
      rw [Int.mul_comm (48271 ^ j) 48271, Int.mul_assoc]
    rw [m]
    generalize (48271 : Int) ^ j * (((itN 1 x : Nat) : Int) - (itN 0 x : Nat)) = w at hs ⊢
    omega
theorem cyc {x : Nat} (hx : x < 2147483647) {k : Nat} (h0 : 0 < k) (hk : k < 2147483646) (e : itN k x = x) : gN x = x := by
  obtain ⟨s, hs⟩ := diff_go x k
  have e1 : itN (k + 1) x = gN x := by show gN (itN k x) = _; rw [e]
  rw [e1, e] at hs
  have e2 : itN 1 x = gN x := rfl
  have e3 : itN 0 x = x := rfl
  rw [e2, e3] at hs
  have hg := gN_lt x
  -- (gN x - x) * (1 - 48271 ^ k)
  by_cases hz : gN x = x
  · exact hz
  · exfalso
    have hd : (2147483647 : Int) ∣ (((gN x : Nat) : Int) - x) * (1 - 48271 ^ k) := ⟨s, by rw [Int.mul_sub, Int.mul_one, Int.mul_comm _ ((48271 : Int) ^ k)]; exact hs⟩
    have hn := Int.natAbs_dvd_natAbs.mpr hd
    rw [Int.natAbs_mul] at hn
    rcases PP_mul hn with h | h
    · have : (((gN x : Nat) : Int) - x).natAbs ≠ 0 := by omega
      have := Nat.le_of_dvd (by omega) h
      have h2 : ((2147483647 : Int)).natAbs = 2147483647 := rfl
      omega
    · refine order_lt h0 hk ?_
      have h' : (2147483647 : Int) ∣ 1 - 48271 ^ k := Int.natAbs_dvd_natAbs.mp h
      obtain ⟨u, hu⟩ := h'
      have hp : ((48271 ^ k : Nat) : Int) = (48271 : Int) ^ k := Int.natCast_pow 48271 k
      unfold One
      rw [← hp] at hu
      generalize 48271 ^ k = w at hu ⊢
      omega
theorem esc (y : Nat) (hy : y < 2147483647) : ∃ j, j ≤ 238609301 ∧ (itN (6 * j) y / 7) % 9 ≠ 8 := by
  refine Classical.byContradiction fun hno => ?_
  have all : ∀ j, j ≤ 238609301 → (itN (6 * j) y / 7) % 9 = 8 := fun j hj => Classical.byContradiction fun z => hno ⟨j, hj, z⟩
  have lt : ∀ j, itN j y < 2147483647 := fun j => by
    cases j with
    | zero => exact hy
    | succ j => exact gN_lt _
  obtain ⟨i, j, hij, hj, e⟩ := pigeon 238609301 (fun j => (itN (6 * j) y / 63) * 7 + itN (6 * j) y % 7) (fun i hi => by
    have h1 := all i hi
    have h2 := lt (6 * i)
    show (itN (6 * i) y / 63) * 7 + itN (6 * i) y % 7 < 238609301
    omega)
  have h1 := all i (by omega)
  have h2 := all j hj
  have e : (itN (6 * i) y / 63) * 7 + itN (6 * i) y % 7 = (itN (6 * j) y / 63) * 7 + itN (6 * j) y % 7 := e
  have ee : itN (6 * i) y = itN (6 * j) y := by omega
  have ej : 6 * j = 6 * (j - i) + 6 * i := by omega
  rw [ej, itN_add] at ee
  have hx := lt (6 * i)
  generalize itN (6 * i) y = x at ee hx h1
  have fx := cyc hx (k := 6 * (j - i)) (by omega) (by omega) ee.symm
  unfold gN at fx
  omega
end Fk
namespace Fk
open PySem PySem.Spec PyProof.Rows L2
local macro_rules | `(tactic| wtm_at "ln") => `(tactic| first
  | omega
  | (simp only [List.length_cons, List.length_nil, List.length_map, List.length_append, List.length_replicate, List.length_take, List.length_drop, List.length_set]; omega)
  | (with_unfolding_all exact (by decide)))
local macro_rules | `(tactic| wtm_at "ar") => `(tactic| first
  | ((with_reducible show CMulW _ _); (refine' mulS ?_ ?_ <;> omega))
  | ((with_reducible show CDivW _ _); (refine' divS ?_ ?_ <;> omega))
  | ((with_reducible show CPow _ _); exact ⟨by decide, by decide, by decide⟩)
  | (show (0 : Int) < _; omega)
  | (with_unfolding_all exact (by decide)))
local macro_rules | `(tactic| wtm_at "at") => `(tactic| first
  | assumption
  | (refine' cl_atE ?e80 ?h80; (case' e80 => first | exact rfl | assumption); (case' h80 => wtm_at "ln"))
  | exact rfl)
local macro_rules | `(tactic| wtm_at "fr") => `(tactic| first
  | assumption
  | ((with_reducible refine' Mx.free0 ?m99 ?h99); (case' h99 => assumption); (case' m99 => wtm_at "mo")))
local macro_rules | `(tactic| wtm_at "hp") => `(tactic| first
  | assumption
  | ((with_reducible refine' Mx.get0 ?m1 ?h1); (case' m1 => assumption); (case' h1 => wtm_at "hp"))
  | ((with_reducible refine' Mx.get ?m2 ?n2 ?h2); (case' m2 => assumption); (case' n2 => wtm_at "nin"); (case' h2 => wtm_at "hp")))
local macro_rules | `(tactic| wtm_at "sl") => `(tactic| first
  | assumption
  | ((with_reducible refine' Mx.sqL0 ?m96 ?h96); (case' h96 => assumption); (case' m96 => wtm_at "mo"))
  | (refine' SqL.of ?h3; (case' h3 => wtm_at "hp"))
  | ((with_reducible refine' Mx.sqL0 ?m4 ?h4); (case' m4 => assumption); (case' h4 => wtm_at "sl"))
  | ((with_reducible refine' Mx.sqL ?m5 ?n5 ?h5); (case' m5 => assumption); (case' n5 => wtm_at "nin"); (case' h5 => wtm_at "sl")))
local macro_rules | `(tactic| wtm_at "st") => `(tactic| first
  | assumption
  | ((with_reducible refine' Mx.sqT0 ?m97 ?h97); (case' h97 => assumption); (case' m97 => wtm_at "mo"))
  | (refine' SqT.of ?h6; (case' h6 => wtm_at "hp"))
  | ((with_reducible refine' Mx.sqT0 ?m7 ?h7); (case' m7 => assumption); (case' h7 => wtm_at "st"))
  | ((with_reducible refine' Mx.sqT ?m8 ?n8 ?h8); (case' m8 => assumption); (case' n8 => wtm_at "nin"); (case' h8 => wtm_at "st")))
local macro_rules | `(tactic| wtm_at "mx") => `(tactic| first
  | assumption
  | exact Mx.refl
  | ((with_reducible refine' Mx.of0 ?h9); (case' h9 => assumption))
  | ((with_reducible refine' Mx.trans ?h10 ?m10); (case' m10 => first | assumption | ((with_reducible refine' Mx.of0 ?q10); (case' q10 => assumption))); (case' h10 => wtm_at "mx")))
local macro_rules | `(tactic| wtm_at "mo") => `(tactic| first
  | wtm_at "mx"
  | ((with_reducible refine' Mx.own ?m90 ?f90 ?k90); (case' k90 => assumption); (case' f90 => wtm_at "fr"); (case' m90 => wtm_at "mo"))
  | ((with_reducible refine' Mx.trans ?h91 ?m91); (case' m91 => first | assumption | ((with_reducible refine' Mx.of0 ?q91); (case' q91 => assumption))); (case' h91 => wtm_at "mo")))
local macro_rules | `(tactic| wtm_at "ne") => `(tactic| first
  | assumption
  | exact Ne.symm (by assumption)
  | ((with_reducible refine' ne_of_none ?x94 ?y94); (case' y94 => assumption); (case' x94 => wtm_at "hp"))
  | ((with_reducible refine' Ne.symm (ne_of_none ?x95 ?y95)); (case' y95 => assumption); (case' x95 => wtm_at "hp")))
local macro_rules | `(tactic| wtm_at "nin") => `(tactic| first
  | assumption
  | exact List.not_mem_nil
  | ((with_reducible refine' List.not_mem_cons_of_ne_of_not_mem ?h98 ?t98); (case' h98 => wtm_at "ne"); (case' t98 => wtm_at "nin")))
local macro_rules | `(tactic| wtm_at "g1") => `(tactic| first
  | ((with_reducible refine' g_var ?h11 ?k11); (case' h11 => exact rfl))
  | with_reducible refine' g_c ?_
  | with_reducible refine' g_op ?_
  | with_reducible refine' g_I0 ?_
  | ((with_reducible refine' g_I ?c12 ?k12); (case' c12 => wtm_at "ar"))
  | with_reducible refine' g_cons ?_
  | with_reducible refine' g_nil ?_
  | with_reducible refine' g_seq ?_
  | with_reducible refine' g_asg ?_
  | with_reducible refine' g_name ?_
  | with_reducible refine' g_ret ?_
  | with_reducible refine' g_if ?_
  | with_reducible refine' g_test ?_
  | with_reducible refine' g_tB ?_
  | with_reducible refine' g_bl ?_
  | ((with_reducible refine' g_eq ?h13 ?k13); (case' h13 => exact rfl))
  | ((with_reducible refine' g_ne ?h14 ?k14); (case' h14 => exact rfl))
  | with_reducible refine' g_CB ?_
  | with_reducible refine' g_call ?_
  | with_reducible refine' g_drop ?_
  | with_reducible refine' g_next ?_
  | with_reducible refine' g_not ?_
  | with_reducible refine' g_and ?_
  | with_reducible refine' g_or ?_
  | with_reducible refine' g_un ?_
  | with_reducible refine' g_U ?_
  | with_reducible refine' g_tup ?_
  | with_reducible refine' g_lst ?_
  | ((with_reducible refine' g_kNew ?h15 ?k15); (case' h15 => wtm_at "ln"); (case' k15 => intro _ _ _ _ _))
  | ((with_reducible refine' g_ixL ?h16 ?a16 ?k16); (case' h16 => wtm_at "sl"); (case' a16 => wtm_at "at"))
  | ((with_reducible refine' g_ixT ?h17 ?a17 ?k17); (case' h17 => wtm_at "st"); (case' a17 => wtm_at "at"))
  | with_reducible refine' g_slice ?_
  | with_reducible refine' g_part ?_
  | with_reducible refine' g_kPart ?_
  | with_reducible refine' g_noPart ?_
  | ((with_reducible refine' g_slL ?h18 ?k18); (case' h18 => wtm_at "sl"); (case' k18 => intro _ _ _ _ _))
  | ((with_reducible refine' g_cat ?h119 ?h219 ?l19 ?k19); (case' h119 => wtm_at "hp"); (case' h219 => wtm_at "hp"); (case' l19 => wtm_at "ln"); (case' k19 => intro _ _ _ _ _))
  | ((with_reducible refine' g_rep ?h120 ?h220 ?h320 ?l20 ?k20); (case' h120 => wtm_at "hp"); (case' h220 => wtm_at "ln"); (case' h320 => wtm_at "ln"); (case' l20 => wtm_at "ln"); (case' k20 => intro _ _ _ _ _))
  | ((with_reducible refine' g_append ?h21 ?l21 ?k21); (case' h21 => wtm_at "hp"); (case' l21 => wtm_at "ln"); (case' k21 => intro _ _ _))
  | ((with_reducible refine' g_kBM ?h22 ?k22); (case' h22 => wtm_at "sl"))
  | ((with_reducible refine' g_kBM0 ?h23 ?k23); (case' h23 => wtm_at "sl"))
  | ((with_reducible refine' g_kL ?h24 ?k24); (case' h24 => wtm_at "sl"))
  | ((with_reducible refine' g_kR1 ?h125 ?h225 ?k25); (case' h125 => wtm_at "ln"); (case' h225 => wtm_at "ln"))
  | ((with_reducible refine' g_kR2 ?h126 ?h226 ?h326 ?h426 ?k26); (case' h126 => wtm_at "ln"); (case' h226 => wtm_at "ln"); (case' h326 => wtm_at "ln"); (case' h426 => wtm_at "ln"))
  | ((with_reducible refine' g_lenL ?h27 ?k27); (case' h27 => wtm_at "sl"))
  | ((with_reducible refine' g_lenT ?h28 ?k28); (case' h28 => wtm_at "st"))
  | ((with_reducible refine' g_listL ?h29 ?k29); (case' h29 => wtm_at "sl"); (case' k29 => intro _ _ _ _ _))
  | ((with_reducible refine' g_tupleL ?h30 ?k30); (case' h30 => wtm_at "sl"); (case' k30 => intro _ _ _ _ _))
  | with_reducible refine' g_max ?_
  | with_reducible refine' g_min ?_
  | with_reducible refine' g_intB ?_
  | with_reducible refine' g_fld ?_
  | with_reducible refine' g_put ?_
  | with_reducible refine' g_dget ?_
  | with_reducible refine' g_isN ?_
  | with_reducible refine' g_notN ?_
  | with_reducible refine' g_ifE ?_
  | with_reducible refine' g_andV ?_
  | with_reducible refine' g_orV ?_
  | with_reducible refine' g_notV ?_
  | with_reducible refine' g_kIf ?_
  | with_reducible refine' g_chain ?_
  | with_reducible refine' g_kCh ?_
  | with_reducible refine' g_sub ?_
  | ((with_reducible refine' g_setI ?h92 ?e92 ?j92 ?k92); (case' h92 => wtm_at "hp"); (case' e92 => first | exact rfl | assumption); (case' j92 => wtm_at "ln"); (case' k92 => intro _ _ _))
  | ((with_reducible refine' g_setL ?h89 ?i89 ?k89); (case' h89 => wtm_at "hp"); (case' i89 => exact ixE rfl (by wtm_at "ln")); (case' k89 => intro _ _ _))
  | ((with_reducible refine' g_gtup ?h93 ?e93 ?k93); (case' h93 => wtm_at "st"); (case' e93 => exact rfl))
  | with_reducible refine' g_gcons ?_
  | with_reducible refine' g_gnil ?_
  | with_reducible refine' g_par ?_
  | with_reducible refine' g_kPar ?_
  | with_reducible refine' g_meth ?_
  | with_reducible refine' g_bm ?_
  | with_reducible refine' g_bm0 ?_
  | with_reducible refine' g_raise ?_
  | with_reducible refine' g_for ?_
  | with_reducible refine' g_iR1 ?_
  | with_reducible refine' g_iR2 ?_
  | with_reducible refine' g_iL ?_
  | with_reducible refine' g_lc ?_
  | with_reducible refine' g_retN ?_
  | with_reducible refine' g_no (b := false) rfl ?_
  | with_reducible refine' g_yes (b := true) rfl ?_)
local macro_rules | `(tactic| wtm_at "go") => `(tactic| repeat (wtm_at "g1"))
local macro_rules | `(tactic| wtm_at "gs") => `(tactic| repeat ((fail_if_success (with_reducible refine' g_ifE ?_)); wtm_at "g1"))
local macro_rules | `(tactic| wtm_at "gi") => `(tactic| repeat ((fail_if_success (with_reducible refine' g_if ?_)); wtm_at "g1"))
local macro_rules | `(tactic| wtm_at "gr") => `(tactic| repeat ((fail_if_success (with_reducible refine' g_ret ?_)); wtm_at "g1"))
local macro_rules | `(tactic| wtm_at "gq") => `(tactic| repeat ((fail_if_success (with_reducible refine' g_asg ?_)); wtm_at "g1"))
/-! ### drawing, with what is left told -/
def szI (c : Int) : Nat := if 0 < c then Nat.log2 c.toNat + 1 else 0
theorem szI_mono {a b : Int} (h : a ≤ b) : szI a ≤ szI b := by
  unfold szI
  by_cases ha : 0 < a
  · rw [if_pos ha, if_pos (by omega)]
    have hb : b.toNat ≠ 0 := by omega
    have h1 : b.toNat < 2 ^ (Nat.log2 b.toNat + 1) := Nat.lt_log2_self
    have h2 : Nat.log2 a.toNat < Nat.log2 b.toNat + 1 := (Nat.log2_lt (by omega)).mpr (by omega)
    omega
  · rw [if_neg ha]; omega
theorem szI_div {l n : Int} (h : 0 < l) (hn : 2 ≤ n) : szI (l / n) < szI l := by
  have hq : l / n ≤ l / 2 := by
    have h1 : l / n * n ≤ l := Int.ediv_mul_le l (by omega)
    have h0 : 0 ≤ l / n := Int.ediv_nonneg (by omega) (by omega)
    have h2 : l / n * 2 ≤ l / n * n := Int.mul_le_mul_of_nonneg_left hn h0
    omega
  unfold szI
  rw [if_pos h]
  by_cases hz : 0 < l / n
  · rw [if_pos hz]
    have h1 : l.toNat < 2 ^ (Nat.log2 l.toNat + 1) := Nat.lt_log2_self
    rw [Nat.pow_succ] at h1
    have h2 : Nat.log2 (l / n).toNat < Nat.log2 l.toNat := (Nat.log2_lt (by omega)).mpr (by omega)
    omega
  · rw [if_neg hz]; omega
def potI (ns : List Int) (i l : Int) : Nat := szI l + ((ns.drop i.toNat).map fun c => szI c + 1).sum
/-- where drawing stands, with what is left and the mixed number -/
structure StX (K : PySem.W.Frag) (H0 H : Hp) (r : Addr) (D x : Nat) : Prop where
  ex : ∃ (a : Addr) (ns : List Int) (i l : Int), H r = some (.lst [.ref a, .int i, .int x, .int l]) ∧ SqL K H0 a (ns.map V.int) ∧ ns.length ≤ 63 ∧ 0 ≤ i ∧ 0 ≤ l ∧ potI ns i l = D
  lt : x < 2147483647
  fr : H0 r = none
  mx : Mx [] H0 H
theorem StX.at {K : PySem.W.Frag} {H0 H : Hp} {r : Addr} {D x : Nat} (h : StX K H0 H r D x) : StAt K H0 H r := by
  obtain ⟨⟨a, ns, i, l, e, hS, hl, hi, hl0, _⟩, lt, fr, mx⟩ := h
  exact ⟨⟨a, ns, i, x, l, e, hS, hl, hi, by omega, by omega, hl0⟩, fr, mx⟩
theorem StAt.toX {K : PySem.W.Frag} {H0 H : Hp} {r : Addr} (h : StAt K H0 H r) : ∃ D x, StX K H0 H r D x := by
  obtain ⟨⟨a, ns, i, m, l, e, hS, hl, hi, hm0, hm1, hl0⟩, fr, mx⟩ := h
  have em : m = ((m.toNat : Nat) : Int) := by omega
  rw [em] at e
  exact ⟨potI ns i l, m.toNat, ⟨a, ns, i, l, e, hS, hl, hi, hl0, rfl⟩, by omega, fr, mx⟩
theorem StX.mx0 {K : PySem.W.Frag} {H0 H H' : Hp} {r : Addr} {D x : Nat} (h : StX K H0 H r D x) (m : Mx [] H H') : StX K H0 H' r D x := by
  obtain ⟨⟨a, ns, i, l, e, q⟩, lt, fr, mx⟩ := h
  exact ⟨⟨a, ns, i, l, m.get0 e, q⟩, lt, fr, mx.trans m⟩
/-- some draws: less is left, or nothing was left and the mixed number went on -/
def Stp (k D x D' x' : Nat) : Prop := D' < D ∨ (D = 0 ∧ D' = 0 ∧ x' = itN k x)
theorem Stp.comp {i j D x D1 x1 D2 x2 : Nat} (a : Stp i D x D1 x1) (b : Stp j D1 x1 D2 x2) : Stp (j + i) D x D2 x2 := by
  rcases a with a | ⟨a1, a2, a3⟩
  · rcases b with b | ⟨b1, b2, _⟩
    · exact .inl (by omega)
    · exact .inl (by omega)
  · rcases b with b | ⟨b1, b2, b3⟩
    · omega
    · exact .inr ⟨a1, b2, by rw [b3, a3, itN_add]⟩
theorem gN_cast (x : Nat) : ((x : Int) * 48271 + 11) % 2147483647 = ((gN x : Nat) : Int) := by unfold gN; omega
section
variable {P : Program} {w : World} {K : PySem.W.Frag} {mg : Str → Option Value} {base : Heap}
local macro_rules | `(tactic| wtm_at "g1") => `(tactic| first
  | ((with_reducible refine' g_fOwn (by assumption) ?h201 ?k201); (case' h201 => wtm_at "hp"))
  | ((with_reducible refine' g_fKey (by assumption) ?h202 ?k202); (case' h202 => wtm_at "hp"))
  | ((with_reducible refine' g_fMem (by assumption) ?h203 ?k203); (case' h203 => wtm_at "hp"))
  | ((with_reducible refine' g_fPri (by assumption) ?h204 ?k204); (case' h204 => wtm_at "hp"))
  | ((with_reducible refine' g_fAwa (by assumption) ?h205 ?k205); (case' h205 => wtm_at "hp"))
  | ((with_reducible refine' g_pAwa (by assumption) ?h206 ?k206); (case' h206 => wtm_at "hp"); (case' k206 => intro _ _ _))
  | ((with_reducible refine' g_kMeth ?h207 ?l207 ?k207); (case' h207 => wtm_at "hp"); (case' l207 => exact rfl)))

local macro_rules | `(tactic| wtm_at "g1") => `(tactic| first
  | ((with_reducible refine' g_dNum ?h311 ?k311); (case' h311 => wtm_at "hp"))
  | ((with_reducible refine' g_dKey ?h312 ?k312); (case' h312 => wtm_at "hp"))
  | ((with_reducible refine' g_dCe ?h313 ?k313); (case' h313 => wtm_at "hp"))
  | ((with_reducible refine' g_dSt ?h314 ?k314); (case' h314 => wtm_at "hp"))
  | ((with_reducible refine' g_dUp ?h315 ?k315); (case' h315 => wtm_at "hp"))
  | ((with_reducible refine' g_kDGetS ?h301 ?l301 ?k301); (case' h301 => wtm_at "hp"); (case' l301 => exact rfl))
  | (with_reducible refine' g_dput ?_)
  | (with_reducible refine' g_iK ?_)
  | ((with_reducible refine' g_disp ?k305); (case' k305 => intro _ _ _ _ _))
  | (with_reducible refine' g_pcons ?_)
  | (with_reducible refine' g_pnil ?_)
  | ((with_reducible refine' g_kDisp ?h306 ?e306 ?f306 ?l306 ?k306); (case' h306 => wtm_at "hp"); (case' e306 => exact rfl); (case' f306 => exact rfl); (case' l306 => wtm_at "ln"); (case' k306 => intro _ _ _))
  | ((with_reducible refine' g_pUp ?h302 ?k302); (case' h302 => wtm_at "hp"); (case' k302 => intro _ _ _))
  | ((with_reducible refine' g_pSt ?h303 ?k303); (case' h303 => wtm_at "hp"); (case' k303 => intro _ _ _))
  | ((with_reducible refine' g_pCe ?h304 ?k304); (case' h304 => wtm_at "hp"); (case' k304 => intro _ _ _)))

def spDrawnX : Sp := fun vs H Q _ => ∃ (H0 : Hp) (r : Addr) (n : Int) (D x : Nat), vs = [.ref r, .int n] ∧ StX K H0 H r D x ∧ 1 ≤ n ∧ n < 2 ^ 300 ∧
  ∀ (y : Int) D' x' H', 0 ≤ y → y < n → Mx [r] H H' → StX K H0 H' r D' x' → (2 ≤ n → Stp 1 D x D' x') → (D = 0 → y = ((gN x / 7 : Nat) : Int) % n) → Q (.int y) H'
theorem c__law_drawnX (T : Tx K mg) : Cl P w K mg base 1 "_law_drawn" (spDrawnX (K := K)) [] := by
  refine T.f__law_drawn.cl sc__law_drawn (fun vs H Q E h => ?_) (fun cdv A outer s H vs Q E hr h => ?_)
  · obtain ⟨_, _, _, _, _, rfl, _⟩ := h
    rfl
  · obtain ⟨H0, r, n, D, x, rfl, ⟨⟨a, ns, i, l, e0, hS, hl, hi, hl0, hD⟩, hx, f0, m0⟩, hn0, hn1, q⟩ := h
    refine ⟨_, (pss_cons (ps_if (pt_cmpR op_gt (pe_ix (ixL K) (pv 0) pe_int (fun _ _ => rfl)) pe_int (by first | exact nomark _ | rfl)) (pss_cons (ps_set (i := 2) sc__law_drawn.nd rfl (Or.inl rfl) (pe_op op_mod (pe_ix (ixL K) (pv 0) pe_int (fun _ _ => rfl)) (pv 1)))
      (pss_cons (ps_asg (pe_op op_fdivW (pe_ix (ixL K) (pv 0) pe_int (fun _ _ => rfl)) (pv 1)) (pg_sub (pv 0) pe_int set_list))
      (pss_one (ps_ret (pv 2))))) pss_nil)
      (pss_cons (ps_asg (pe_op op_add (pe_ix (ixL K) (pv 0) pe_int (fun _ _ => rfl)) pe_int) (pg_sub (pv 0) pe_int set_list))
      (pss_cons (ps_if (pt_cmpR op_le (pe_ix (ixL K) (pv 0) pe_int (fun _ _ => rfl)) (pe_callB (cLen K) (by rfl) T.n_len (by decide +kernel) (pa_cons (pe_ix (ixL K) (pv 0) pe_int (fun _ _ => rfl)) pa_nil)) (by first | exact nomark _ | rfl)) (pss_cons (ps_set (i := 3) sc__law_drawn.nd rfl (Or.inl rfl) (pe_ix (ixL K) (pe_ix (ixL K) (pv 0) pe_int (fun _ _ => rfl)) (pe_op op_sub (pe_ix (ixL K) (pv 0) pe_int (fun _ _ => rfl)) pe_int) (fun _ _ => rfl)))
      (pss_cons (ps_asg (pe_ifExp (pt_cmpR op_ge (pv 3) (pe_op op_pow pe_int pe_int) (by first | exact nomark _ | rfl)) (pe_op op_fdivW (pv 3) (pv 1)) pe_int) (pg_sub (pv 0) pe_int set_list))
      (pss_one (ps_ret (pe_op op_mod (pv 3) (pv 1)))))) pss_nil)
      (pss_cons (ps_asg (pe_op op_mod (pe_op op_add (pe_op op_mulW (pe_ix (ixL K) (pv 0) pe_int (fun _ _ => rfl)) pe_int) pe_int) pe_int) (pg_sub (pv 0) pe_int set_list))
      (pss_one (ps_ret (pe_op op_mod (pe_op op_fdivW (pe_ix (ixL K) (pv 0) pe_int (fun _ _ => rfl)) pe_int) (pv 1)))))))), ?_⟩
    wtm_at "go"
    refine g_ite (fun e => ?_) (fun e => ?_)
    · have hlp : 0 < l := by simpa using e
      have hd : 2 ≤ n → potI ns i (l / n) < D := fun h2 => by
        have := szI_div hlp h2
        rw [← hD]; unfold potI; omega
      have hD0 : D ≠ 0 := by
        have h1 : 1 ≤ szI l := by unfold szI; rw [if_pos hlp]; omega
        rw [← hD]; unfold potI; omega
      wtm_at "go"
      rename_i H1 m1 e1
      exact q _ _ _ _ (Int.emod_nonneg _ (by omega)) (Int.emod_lt_of_pos _ (by omega)) m1 ⟨⟨a, ns, i, l / n, e1, hS, hl, hi, Int.ediv_nonneg hl0 (by omega), rfl⟩, hx, f0, by wtm_at "mo"⟩ (fun h2 => .inl (hd h2)) (fun z => absurd z hD0)
    · have hl00 : l = 0 := by
        have : ¬ 0 < l := by simpa using e
        omega
      subst hl00
      wtm_at "go"
      rename_i H1 m1 e1
      refine g_ite (fun e2 => ?_) (fun e2 => ?_)
      · have e3 : i + 1 ≤ (ns.length : Int) := by simpa using e2
        have e4 : i + 1 - 1 = ((i.toNat : Nat) : Int) := by omega
        have e5 : i.toNat < ns.length := by omega
        have hcell : ns.drop i.toNat = cl ns i.toNat :: ns.drop (i + 1).toNat := by
          have h1 := List.drop_eq_getElem_cons e5
          rw [h1]
          have h2 : (i + 1).toNat = i.toNat + 1 := by omega
          rw [h2]
          congr 1
          simp [cl, List.getD, e5]
        have hdrop : ∀ l' : Int, szI l' ≤ szI (cl ns i.toNat) → potI ns (i + 1) l' < D := fun l' h => by
          rw [← hD]
          unfold potI
          rw [hcell, List.map_cons, List.sum_cons]
          omega
        wtm_at "go"
        refine g_ite (fun e6 => ?_) (fun e6 => ?_)
        · have h6 : 0 ≤ cl ns i.toNat := by
            have : (10 : Int) ^ (18 : Int).toNat ≤ cl ns i.toNat := by simpa using e6
            have h18 : (0 : Int) ≤ 10 ^ (18 : Int).toNat := by decide
            omega
          have hlt : cl ns i.toNat / n ≤ cl ns i.toNat := Int.ediv_le_self _ h6
          wtm_at "go"
          rename_i H2 m2 e7
          have hp := hdrop _ (szI_mono hlt)
          exact q _ _ _ _ (Int.emod_nonneg _ (by omega)) (Int.emod_lt_of_pos _ (by omega)) (m1.trans m2) ⟨⟨a, ns, i + 1, cl ns i.toNat / n, e7, hS, hl, by omega, Int.ediv_nonneg h6 (by omega), rfl⟩, hx, f0, by wtm_at "mo"⟩ (fun _ => .inl hp) (fun z => by omega)
        · wtm_at "go"
          rename_i H2 m2 e7
          have hp := hdrop 0 (by unfold szI; simp)
          exact q _ _ _ _ (Int.emod_nonneg _ (by omega)) (Int.emod_lt_of_pos _ (by omega)) (m1.trans m2) ⟨⟨a, ns, i + 1, 0, e7, hS, hl, by omega, by omega, rfl⟩, hx, f0, by wtm_at "mo"⟩ (fun _ => .inl hp) (fun z => by omega)
      · have e3 : ¬ i + 1 ≤ (ns.length : Int) := by simpa using e2
        have hnil : ∀ j : Int, i ≤ j → potI ns j 0 = 0 := fun j hj => by
          unfold potI
          rw [List.drop_eq_nil_of_le (by omega)]
          rfl
        have hD0 : D = 0 := by rw [← hD]; exact hnil i (Int.le_refl _)
        wtm_at "go"
        rename_i H2 m2 e7
        rw [gN_cast] at e7 ⊢
        have ey : ((gN x : Nat) : Int) / 7 = ((gN x / 7 : Nat) : Int) := by omega
        exact q _ 0 _ _ (Int.emod_nonneg _ (by omega)) (Int.emod_lt_of_pos _ (by omega)) (m1.trans m2) ⟨⟨a, ns, i + 1, 0, e7, hS, hl, by omega, by omega, hnil _ (by omega)⟩, gN_lt x, f0, by wtm_at "mo"⟩ (fun _ => .inr ⟨hD0, rfl, rfl⟩) (fun _ => by rw [ey])
def spAmountX : Sp := fun vs H Q _ => ∃ (H0 : Hp) (r : Addr) (D x : Nat), vs = [.ref r] ∧ StX K H0 H r D x ∧ ∀ (y : Int) D' x' H', 1 ≤ y → y ≤ 99999 → Mx [r] H H' → StX K H0 H' r D' x' → Stp 2 D x D' x' → Q (.int y) H'
theorem c__law_amountX (T : Tx K mg) : Cl P w K mg base 2 "_law_amount" (spAmountX (K := K)) [] := by
  refine T.f__law_amount.cl sc__law_amount (fun vs H Q E h => ?_) (fun cdv A outer s H vs Q E hr h => ?_)
  · obtain ⟨_, _, _, _, rfl, _⟩ := h
    rfl
  · obtain ⟨H0, r, D, x, rfl, S, q⟩ := h
    refine ⟨_, (pss_one (ps_ret (pe_op op_add pe_int (q_call (c__law_drawnX T) hr (by decide) rfl (passes_call (takes_of rfl rfl rfl rfl) (fun _ _ _ _ h => h)) (pa_cons (pv 0) (pa_cons (pe_ix (ixL K) (pe_lst (pa_cons pe_int (pa_cons pe_int (pa_cons pe_int pa_nil)))) (q_call (c__law_drawnX T) hr (by decide) rfl (passes_call (takes_of rfl rfl rfl rfl) (fun _ _ _ _ h => h)) (pa_cons (pv 0) (pa_cons pe_int pa_nil))) (fun _ _ => rfl)) pa_nil)))))), ?_⟩
    wtm_at "go"
    rename_i l H1 n1 m1 e1
    refine ⟨H0, r, 3, D, x, rfl, S.mx0 m1, by omega, by omega, fun y D2 x2 H2 y0 y1 m2 S2 p2 _ => ?_⟩
    have ne := S.at.new n1
    have e2 : H2 l = some (.lst [.int 9, .int 40, .int 99999]) := m2 _ _ e1 (by simpa using ne)
    have fin : ∀ n : Int, 2 ≤ n → n ≤ 99999 → spDrawnX (K := K) [.ref r, .int n] H2 (fun y H3 => rI0 (fun i j => .int (i + j)) (.int 1) y H3 Q) E := fun n h0 h1 =>
      ⟨H0, r, n, D2, x2, rfl, S2, by omega, by omega, fun y D3 x3 H3 y0 y1 m3 S3 p3 _ => g_I0 (q _ _ _ _ (by omega) (by omega) ((m1.of0.trans m2).trans m3) S3 ((p2 (by omega)).comp (p3 (by omega))))⟩
    have hx : y = 0 ∨ y = 1 ∨ y = 2 := by omega
    rcases hx with rfl | rfl | rfl
    · wtm_at "go"
      exact fin 9 (by omega) (by omega)
    · wtm_at "go"
      exact fin 40 (by omega) (by omega)
    · wtm_at "go"
      exact fin 99999 (by omega) (by omega)
/-- a deed drawn for a meter that is up: one that may be done, or what is left goes on -/
def DdX (μ : Mt) (d : Dd) (D x D' x' : Nat) : Prop := (d ≠ .up ∧ refR μ d = none) ∨ D' < D ∨ (D = 0 ∧ D' = 0 ∧ x' = itN 6 x ∧ (gN x / 7) % 9 = 8)
def spDeedX : Sp := fun vs H Q _ => ∃ (H0 : Hp) (r q qc qs : Addr) (μ : Mt) (n D x : Nat), vs = [.ref r, .ref q] ∧ StX K H0 H r D x ∧ LmAt K H q qc qs μ ∧ Wf n μ ∧ n < 900 ∧ 0 ≤ bk μ 3 ∧ μ.up = true ∧ r ≠ q ∧ r ≠ qc ∧ r ≠ qs ∧
  ∀ t d D' x' H', Mx [r] H H' → StX K H0 H' r D' x' → H t = none → DdAt H' t d → DdX μ d D x D' x' → Q (.ref t) H'
theorem c__law_deedX (T : Tx K mg) : Cl P w K mg base 3 "_law_deed" (spDeedX (K := K)) [] := by
  refine T.f__law_deed.cl sc__law_deed (fun vs H Q E h => ?_) (fun cdv A outer s H vs Q E hr h => ?_)
  · obtain ⟨_, _, _, _, _, _, _, _, _, rfl, _⟩ := h
    rfl
  · obtain ⟨H0, r, q, qc, qs, μ, nw, D, x, rfl, S, ⟨ob, ce, st, ne⟩, W, hn, hf, hup, r1, r2, r3, k⟩ := h
    have hA := W.any
    obtain ⟨hs1, hs2, hs3⟩ := W.sm (by omega)
    have hl := hA.1
    have hb := bank_len hl
    have hu := hu_of hr
    have h3 := hs3 3
    have h5 := hs3 5
    refine ⟨_, (pss_cons (ps_if (PW.pt (pw_and (pt_not (pt_val (pe_dget hu (pv 1) pe_str (fun _ _ => rfl)))) (pw_and1 (pt_cmpR op_gt (q_call (c__law_drawnX T) hr (by decide) rfl (passes_call (takes_of rfl rfl rfl rfl) (fun _ _ _ _ h => h)) (pa_cons (pv 0) (pa_cons pe_int pa_nil))) pe_int (by first | exact nomark _ | rfl))))) (pss_one (ps_ret (pe_tup (pa_cons pe_str pa_nil)))) pss_nil)
      (pss_cons (ps_set (i := 2) sc__law_deed.nd rfl (Or.inl rfl) (q_call (c__law_bank T) hr (by decide) rfl (passes_call (takes_of rfl rfl rfl rfl) (fun _ _ _ _ h => h)) (pa_cons (pe_dget hu (pv 1) pe_str (fun _ _ => rfl)) pa_nil)))
      (pss_cons (ps_set (i := 3) sc__law_deed.nd rfl (Or.inl rfl) (q_call (c__law_drawnX T) hr (by decide) rfl (passes_call (takes_of rfl rfl rfl rfl) (fun _ _ _ _ h => h)) (pa_cons (pv 0) (pa_cons pe_int pa_nil))))
      (pss_cons (ps_if (PW.pt (pw_or (pt_cmpR op_lt (pv 3) pe_int (by first | exact nomark _ | rfl)) (pw_or1 (PW.pt (pw_and (pt_cmpR op_eq (pe_ix (ixL K) (pv 2) pe_int (fun _ _ => rfl)) pe_int (by first | exact nomark _ | rfl)) (pw_and1 (pt_cmpR op_lt (pv 3) pe_int (by first | exact nomark _ | rfl)))))))) (pss_one (ps_ret (pe_tup (pa_cons pe_str (pa_cons (q_call (c__law_code T) hr (by decide) rfl (passes_call (takes_of rfl rfl rfl rfl) (fun _ _ _ _ h => h)) (pa_cons (pe_dget hu (pv 1) pe_str (fun _ _ => rfl)) (pa_cons (pe_dget hu (pv 1) pe_str (fun _ _ => rfl)) (pa_cons (pe_op op_add (pe_ix (ixL K) (pv 2) pe_int (fun _ _ => rfl)) pe_int) (pa_cons (q_call (c__law_amountX T) hr (by decide) rfl (passes_call (takes_of rfl rfl rfl rfl) (fun _ _ _ _ h => h)) (pa_cons (pv 0) pa_nil)) (pa_cons pe_int pa_nil)))))) pa_nil))))) pss_nil)
      (pss_cons (ps_if (pt_cmpR op_lt (pv 3) pe_int (by first | exact nomark _ | rfl)) (pss_cons (ps_set (i := 4) sc__law_deed.nd rfl (Or.inl rfl) (pe_op op_add pe_int (pe_op op_mod (q_call (c__law_drawnX T) hr (by decide) rfl (passes_call (takes_of rfl rfl rfl rfl) (fun _ _ _ _ h => h)) (pa_cons (pv 0) (pa_cons (pe_callB (c_max rfl) (by rfl) T.n_max (by decide +kernel) (pa_cons pe_int (pa_cons (pe_ix (ixL K) (pv 2) pe_int (fun _ _ => rfl)) pa_nil))) pa_nil))) (pe_ix (ixL K) (pe_lst (pa_cons pe_int (pa_cons pe_int pa_nil))) (q_call (c__law_drawnX T) hr (by decide) rfl (passes_call (takes_of rfl rfl rfl rfl) (fun _ _ _ _ h => h)) (pa_cons (pv 0) (pa_cons pe_int pa_nil))) (fun _ _ => rfl)))))
      (pss_one (ps_ret (pe_tup (pa_cons (pe_ix (ixL K) (pe_lst (pa_cons pe_str (pa_cons pe_str (pa_cons pe_str pa_nil)))) (q_call (c__law_drawnX T) hr (by decide) rfl (passes_call (takes_of rfl rfl rfl rfl) (fun _ _ _ _ h => h)) (pa_cons (pv 0) (pa_cons pe_int pa_nil))) (fun _ _ => rfl)) (pa_cons (pv 4) pa_nil)))))) pss_nil)
      (pss_one (ps_ret (pe_ix (ixL K) (pe_lst (pa_cons (pe_tup (pa_cons pe_str pa_nil)) (pa_cons (pe_tup (pa_cons pe_str (pa_cons (q_call (c__law_amountX T) hr (by decide) rfl (passes_call (takes_of rfl rfl rfl rfl) (fun _ _ _ _ h => h)) (pa_cons (pv 0) pa_nil)) pa_nil))) (pa_cons (pe_tup (pa_cons pe_str (pa_cons (q_call (c__law_amountX T) hr (by decide) rfl (passes_call (takes_of rfl rfl rfl rfl) (fun _ _ _ _ h => h)) (pa_cons (pv 0) pa_nil)) pa_nil))) pa_nil)))) (q_call (c__law_drawnX T) hr (by decide) rfl (passes_call (takes_of rfl rfl rfl rfl) (fun _ _ _ _ h => h)) (pa_cons (pv 0) (pa_cons pe_int pa_nil))) (fun _ _ => rfl))))))))), ?_⟩
    refine g_seq ?_
    refine g_cutS (fun N => N (L2.start N__law_deed [.ref r, .ref q]) H) (fun N hN => ?_) ?_
    · wtm_at "go"
      refine g_no (by simp [hup]) ?_
      wtm_at "go"
      exact hN
    · wtm_at "go"
      refine ⟨qc, μ.cells, rfl, SqL.of ce, hA, fun b H2 n2 m2 e2 => ?_⟩
      have S2 := S.mx0 m2
      have nb : b ≠ r := S.at.new n2
      have ob2 : H2 q = some (.dK (lmKvs μ qc qs)) := m2 _ _ ob (by simp)
      wtm_at "go"
      refine ⟨H0, r, 9, D, x, rfl, S2, by omega, by omega, fun y D3 x3 H3 y0 y1 m3 S3 p3 v3 => ?_⟩
      have e3 : H3 b = some (.lst ((bank μ.cells).map V.int)) := m3 _ _ e2 (by simpa using nb)
      have ob3 : H3 q = some (.dK (lmKvs μ qc qs)) := m3 _ _ ob2 (by simpa using r1.symm)
      have m03 : Mx [r] H H3 := m2.of0.trans m3
      clear m2 m3 S S2 ob ob2 e2 ce
      wtm_at "gi"
      refine g_if ?_
      refine g_cutT (fun QB => QB (decide (y < 3) || (decide (bk μ 3 = 0) && decide (y < 8))) H3) (fun QB hQ => ?_) ?_
      · wtm_at "go"
        refine g_ite (fun e => ?_) (fun e => ?_)
        · rw [e] at hQ; exact hQ
        · rw [e] at hQ
          wtm_at "go"
          refine g_ite (fun e => ?_) (fun e => ?_)
          · have e' : decide (bk μ 3 = 0) = true := decide_eq_true (show cl (bank μ.cells) 3 = 0 by simpa using e)
            rw [e'] at hQ
            wtm_at "go"
            exact hQ
          · have e' : decide (bk μ 3 = 0) = false := decide_eq_false (show ¬ cl (bank μ.cells) 3 = 0 by simpa using e)
            rw [e'] at hQ
            exact hQ
      · refine g_ite (fun e => ?_) (fun e => ?_)
        · wtm_at "go"
          refine ⟨H0, r, D3, x3, rfl, S3, fun a D4 x4 H4 a0 a1 m4 S4 p4 => ?_⟩
          have e4 : H4 b = some (.lst ((bank μ.cells).map V.int)) := m4 _ _ e3 (by simpa using nb)
          have ob4 : H4 q = some (.dK (lmKvs μ qc qs)) := m4 _ _ ob3 (by simpa using r1.symm)
          wtm_at "go"
          refine ⟨_, _, _, _, _, rfl, Nat.lt_of_lt_of_le hs2 (by decide), Nat.lt_of_lt_of_le hs1 (by decide), ?_, ?_, ?_, fun c H5 n5 m5 e5 => ?_⟩
          · show Bd (bk μ 5 + 1)
            unfold Bd
            omega
          · unfold Bd
            omega
          · unfold Bd
            decide
          have S5 := S4.mx0 m5
          wtm_at "go"
          rename_i t H6 n6 m6 e6
          have hg : refR μ (.top (mkCd μ.key μ.num (bk μ 5 + 1) a 1)) = none := by
            show topR μ _ = none
            have : good μ.key (mkCd μ.key μ.num (bk μ 5 + 1) a 1) μ.num (bk μ 5 + 1) 1 = true := by simp [good, mkCd, amt, a0, a1]
            simp [topR, hup, this]
          refine k t (.top (mkCd μ.key μ.num (bk μ 5 + 1) a 1)) D4 x4 H6 (((m03.trans m4).trans m5.of0).trans m6.of0) (S5.mx0 m6) ?_ ⟨c, e6, m6 _ _ e5 (by simp)⟩ (.inl ⟨by simp, hg⟩)
          exact m03.free (m4.free (m5.free n6 (by simp)) (by simpa using S5.at.new n6)) (by simpa using S5.at.new n6)
        · have e : ¬ (y < 3) ∧ ¬ (bk μ 3 = 0 ∧ y < 8) := by
            simp at e
            exact ⟨by omega, fun z => by have := e.2 z.1; omega⟩
          wtm_at "gi"
          refine g_if ?_
          refine g_cutT (fun QB => QB (decide (y < 8)) H3) (fun QB hQ => ?_) ?_
          · wtm_at "go"
            exact hQ
          · refine g_ite (fun e8 => ?_) (fun e8 => ?_)
            · have ey8 : y < 8 := by simpa using e8
              have hpos : 1 ≤ bk μ 3 := by
                have : bk μ 3 ≠ 0 := fun z => e.2 ⟨z, ey8⟩
                omega
              wtm_at "go"
              have hmx : (if cl (bank μ.cells) 3 > 1 then cl (bank μ.cells) 3 else 1) = bk μ 3 := by
                have : cl (bank μ.cells) 3 = bk μ 3 := rfl
                rw [this]
                split <;> omega
              rw [hmx]
              refine ⟨H0, r, bk μ 3, D3, x3, rfl, S3, hpos, by have : (bk μ 3).natAbs < 2 ^ 200 := h3; omega, fun y D4 x4 H4 y0 y1 m4 S4 _ _ => ?_⟩
              wtm_at "go"
              rename_i l5 H5 n5 m5 e5
              have S5 := S4.mx0 m5
              refine ⟨H0, r, 2, D4, x4, rfl, S5, by omega, by omega, fun z D6 x6 H6 z0 z1 m6 S6 _ _ => ?_⟩
              have e6 : H6 l5 = some (.lst [.int 5, .int 99999]) := m6 _ _ e5 (by simpa using S4.at.new n5)
              have m06 : Mx [r] H H6 := ((m03.trans m4).trans m5.of0).trans m6
              have key : ∀ a : Int, 1 ≤ a → a ≤ 99999 → a ≤ bk μ 3 → ∀ σ, σ[0]? = some (some (.ref r)) → σ[4]? = some (some (.int a)) → tRet (tTup (tCons (tOp (rIxL K) (tLst (tCons (tC (V.str "stamp")) (tCons (tC (V.str "stamp")) (tCons (tC (V.str "give_back")) tNil)))) (tCall (spDrawnX (K := K)) [] E (tCons (tVar 0) (tCons (tC (V.int 3)) tNil)))) (tCons (tVar 4) tNil))) { nx := fun x H' => Q V.non H', rt := Q } σ H6 := fun a a0 a1 a2 σ hσ0 hσ4 => by
                have gs : ∀ d, d = .stamp a ∨ d = .back a → d ≠ .up ∧ refR μ d = none := fun d hd => by
                  have ea : amt a = true := amt_iff.mpr ⟨a0, a1⟩
                  have : stampR μ a = none := by
                    unfold stampR
                    rw [if_neg (by simp [hup]), if_neg (by simp [ea]), if_neg (by omega)]
                  rcases hd with rfl | rfl
                  · exact ⟨by simp, this⟩
                  · exact ⟨by simp, this⟩
                refine g_ret ?_
                refine g_tup ?_
                refine g_cons ?_
                refine g_op ?_
                wtm_at "go"
                rename_i l7 H7 n7 m7 e7
                refine g_var hσ0 ?_
                wtm_at "go"
                have S7 := S6.mx0 m7
                refine ⟨H0, r, 3, D6, x6, rfl, S7, by omega, by omega, fun u D8 x8 H8 u0 u1 m8 S8 _ _ => ?_⟩
                have e8 : H8 l7 = some (.lst [.str "stamp", .str "stamp", .str "give_back"]) := m8 _ _ e7 (by simpa using S6.at.new n7)
                have m08 : Mx [r] H H8 := (m06.trans m7.of0).trans m8
                have hu : u = 0 ∨ u = 1 ∨ u = 2 := by omega
                rcases hu with rfl | rfl | rfl
                · wtm_at "go"
                  refine g_var hσ4 ?_
                  wtm_at "go"
                  rename_i t H9 n9 m9 e9
                  exact k t (.stamp a) _ _ H9 (m08.trans m9.of0) (S8.mx0 m9) (m08.free n9 (by simpa using S8.at.new n9)) e9 (.inl (gs _ (.inl rfl)))
                · wtm_at "go"
                  refine g_var hσ4 ?_
                  wtm_at "go"
                  rename_i t H9 n9 m9 e9
                  exact k t (.stamp a) _ _ H9 (m08.trans m9.of0) (S8.mx0 m9) (m08.free n9 (by simpa using S8.at.new n9)) e9 (.inl (gs _ (.inl rfl)))
                · wtm_at "go"
                  refine g_var hσ4 ?_
                  wtm_at "go"
                  rename_i t H9 n9 m9 e9
                  exact k t (.back a) _ _ H9 (m08.trans m9.of0) (S8.mx0 m9) (m08.free n9 (by simpa using S8.at.new n9)) e9 (.inl (gs _ (.inr rfl)))
              have hz : z = 0 ∨ z = 1 := by omega
              rcases hz with rfl | rfl
              · wtm_at "gr"
                refine key _ ?_ ?_ ?_ _ rfl rfl
                · omega
                · omega
                · omega
              · wtm_at "gr"
                refine key _ ?_ ?_ ?_ _ rfl rfl
                · omega
                · omega
                · omega
            · have ey : y = 8 := by
                have : ¬ y < 8 := by simpa using e8
                omega
              wtm_at "go"
              rename_i t1 H4 n4 m4 e4
              have S4 := S3.mx0 m4
              refine ⟨H0, r, D3, x3, rfl, S4, fun a D5 x5 H5 a0 a1 m5 S5 p5 => ?_⟩
              wtm_at "go"
              rename_i t2 H6 n6 m6 e6
              have S6 := S5.mx0 m6
              refine ⟨H0, r, D5, x5, rfl, S6, fun a' D7 x7 H7 a0' a1' m7 S7 p7 => ?_⟩
              wtm_at "go"
              rename_i t3 H8 n8 m8 e8 l H9 n9 m9 e9
              have S8 := S7.mx0 m8
              have S9 := S8.mx0 m9
              refine ⟨H0, r, 3, D7, x7, rfl, S9, by omega, by omega, fun u D10 x10 H10 u0 u1 m10 S10 p10 _ => ?_⟩
              have m07 : Mx [r] H H7 := (((m03.trans m4.of0).trans m5).trans m6.of0).trans m7
              have m010 : Mx [r] H H10 := ((m07.trans m8.of0).trans m9.of0).trans m10
              have r4 : t1 ≠ r := S3.at.new n4
              have r6 : t2 ≠ r := S5.at.new n6
              have r8 : t3 ≠ r := S7.at.new n8
              have r9 : l ≠ r := S8.at.new n9
              have f4 : H t1 = none := m03.free n4 (by simpa using r4)
              have f6 : H t2 = none := m03.free (m4.free (m5.free n6 (by simpa using r6)) (by simp)) (by simpa using r6)
              have f8 : H t3 = none := m07.free n8 (by simpa using r8)
              have e10 : H10 l = some (.lst [.ref t1, .ref t2, .ref t3]) := m10 _ _ e9 (by simpa using r9)
              have d1 : H10 t1 = some (.tup [.str "come_up"]) := m10 _ _ (m9 _ _ (m8 _ _ (m7 _ _ (m6 _ _ (m5 _ _ e4 (by simpa using r4)) (by simp)) (by simpa using r4)) (by simp)) (by simp)) (by simpa using r4)
              have d2 : H10 t2 = some (.tup [.str "stamp", .int a]) := m10 _ _ (m9 _ _ (m8 _ _ (m7 _ _ e6 (by simpa using r6)) (by simp)) (by simp)) (by simpa using r6)
              have d3 : H10 t3 = some (.tup [.str "give_back", .int a']) := m10 _ _ (m9 _ _ e8 (by simp)) (by simpa using r8)
              have pp : Stp 6 D x D10 x10 := (((p3 (by omega)).comp p5).comp p7).comp (p10 (by omega))
              have hX : ∀ d, DdX μ d D x D10 x10 := fun d => by
                rcases pp with z | ⟨z1, z2, z3⟩
                · exact .inr (.inl z)
                · refine .inr (.inr ⟨z1, z2, z3, ?_⟩)
                  have := v3 z1
                  omega
              clear m4 m5 m6 m7 m8 m9 m10 e4 e6 e8 e9
              have hu : u = 0 ∨ u = 1 ∨ u = 2 := by omega
              rcases hu with rfl | rfl | rfl
              · wtm_at "go"
                exact k t1 .up _ _ H10 m010 S10 f4 d1 (hX _)
              · wtm_at "go"
                exact k t2 (.stamp a) _ _ H10 m010 S10 f6 d2 (hX _)
              · wtm_at "go"
                exact k t3 (.back a') _ _ H10 m010 S10 f8 d3 (hX _)
end
end Fk
namespace Fk
open PySem PySem.Spec PyProof.Rows L2
local macro_rules | `(tactic| wtm_at "ln") => `(tactic| first
  | omega
  | (simp only [List.length_cons, List.length_nil, List.length_map, List.length_append, List.length_replicate, List.length_take, List.length_drop, List.length_set]; omega)
  | (with_unfolding_all exact (by decide)))
local macro_rules | `(tactic| wtm_at "ar") => `(tactic| first
  | ((with_reducible show CMulW _ _); (refine' mulS ?_ ?_ <;> omega))
  | ((with_reducible show CDivW _ _); (refine' divS ?_ ?_ <;> omega))
  | ((with_reducible show CPow _ _); exact ⟨by decide, by decide, by decide⟩)
  | (show (0 : Int) < _; omega)
  | (with_unfolding_all exact (by decide)))
local macro_rules | `(tactic| wtm_at "at") => `(tactic| first
  | assumption
  | (refine' cl_atE ?e80 ?h80; (case' e80 => first | exact rfl | assumption); (case' h80 => wtm_at "ln"))
  | exact rfl)
local macro_rules | `(tactic| wtm_at "fr") => `(tactic| first
  | assumption
  | ((with_reducible refine' Mx.free0 ?m99 ?h99); (case' h99 => assumption); (case' m99 => wtm_at "mo")))
local macro_rules | `(tactic| wtm_at "hp") => `(tactic| first
  | assumption
  | ((with_reducible refine' Mx.get0 ?m1 ?h1); (case' m1 => assumption); (case' h1 => wtm_at "hp"))
  | ((with_reducible refine' Mx.get ?m2 ?n2 ?h2); (case' m2 => assumption); (case' n2 => wtm_at "nin"); (case' h2 => wtm_at "hp")))
local macro_rules | `(tactic| wtm_at "sl") => `(tactic| first
  | assumption
  | ((with_reducible refine' Mx.sqL0 ?m96 ?h96); (case' h96 => assumption); (case' m96 => wtm_at "mo"))
  | (refine' SqL.of ?h3; (case' h3 => wtm_at "hp"))
  | ((with_reducible refine' Mx.sqL0 ?m4 ?h4); (case' m4 => assumption); (case' h4 => wtm_at "sl"))
  | ((with_reducible refine' Mx.sqL ?m5 ?n5 ?h5); (case' m5 => assumption); (case' n5 => wtm_at "nin"); (case' h5 => wtm_at "sl")))
local macro_rules | `(tactic| wtm_at "st") => `(tactic| first
  | assumption
  | ((with_reducible refine' Mx.sqT0 ?m97 ?h97); (case' h97 => assumption); (case' m97 => wtm_at "mo"))
  | (refine' SqT.of ?h6; (case' h6 => wtm_at "hp"))
  | ((with_reducible refine' Mx.sqT0 ?m7 ?h7); (case' m7 => assumption); (case' h7 => wtm_at "st"))
  | ((with_reducible refine' Mx.sqT ?m8 ?n8 ?h8); (case' m8 => assumption); (case' n8 => wtm_at "nin"); (case' h8 => wtm_at "st")))
local macro_rules | `(tactic| wtm_at "mx") => `(tactic| first
  | assumption
  | exact Mx.refl
  | ((with_reducible refine' Mx.of0 ?h9); (case' h9 => assumption))
  | ((with_reducible refine' Mx.trans ?h10 ?m10); (case' m10 => first | assumption | ((with_reducible refine' Mx.of0 ?q10); (case' q10 => assumption))); (case' h10 => wtm_at "mx")))
local macro_rules | `(tactic| wtm_at "mo") => `(tactic| first
  | wtm_at "mx"
  | ((with_reducible refine' Mx.own ?m90 ?f90 ?k90); (case' k90 => assumption); (case' f90 => wtm_at "fr"); (case' m90 => wtm_at "mo"))
  | ((with_reducible refine' Mx.trans ?h91 ?m91); (case' m91 => first | assumption | ((with_reducible refine' Mx.of0 ?q91); (case' q91 => assumption))); (case' h91 => wtm_at "mo")))
local macro_rules | `(tactic| wtm_at "ne") => `(tactic| first
  | assumption
  | exact Ne.symm (by assumption)
  | ((with_reducible refine' ne_of_none ?x94 ?y94); (case' y94 => assumption); (case' x94 => wtm_at "hp"))
  | ((with_reducible refine' Ne.symm (ne_of_none ?x95 ?y95)); (case' y95 => assumption); (case' x95 => wtm_at "hp")))
local macro_rules | `(tactic| wtm_at "nin") => `(tactic| first
  | assumption
  | exact List.not_mem_nil
  | ((with_reducible refine' List.not_mem_cons_of_ne_of_not_mem ?h98 ?t98); (case' h98 => wtm_at "ne"); (case' t98 => wtm_at "nin")))
local macro_rules | `(tactic| wtm_at "g1") => `(tactic| first
  | ((with_reducible refine' g_var ?h11 ?k11); (case' h11 => exact rfl))
  | with_reducible refine' g_c ?_
  | with_reducible refine' g_op ?_
  | with_reducible refine' g_I0 ?_
  | ((with_reducible refine' g_I ?c12 ?k12); (case' c12 => wtm_at "ar"))
  | with_reducible refine' g_cons ?_
  | with_reducible refine' g_nil ?_
  | with_reducible refine' g_seq ?_
  | with_reducible refine' g_asg ?_
  | with_reducible refine' g_name ?_
  | with_reducible refine' g_ret ?_
  | with_reducible refine' g_if ?_
  | with_reducible refine' g_test ?_
  | with_reducible refine' g_tB ?_
  | with_reducible refine' g_bl ?_
  | ((with_reducible refine' g_eq ?h13 ?k13); (case' h13 => exact rfl))
  | ((with_reducible refine' g_ne ?h14 ?k14); (case' h14 => exact rfl))
  | with_reducible refine' g_CB ?_
  | with_reducible refine' g_call ?_
  | with_reducible refine' g_drop ?_
  | with_reducible refine' g_next ?_
  | with_reducible refine' g_not ?_
  | with_reducible refine' g_and ?_
  | with_reducible refine' g_or ?_
  | with_reducible refine' g_un ?_
  | with_reducible refine' g_U ?_
  | with_reducible refine' g_tup ?_
  | with_reducible refine' g_lst ?_
  | ((with_reducible refine' g_kNew ?h15 ?k15); (case' h15 => wtm_at "ln"); (case' k15 => intro _ _ _ _ _))
  | ((with_reducible refine' g_ixL ?h16 ?a16 ?k16); (case' h16 => wtm_at "sl"); (case' a16 => wtm_at "at"))
  | ((with_reducible refine' g_ixT ?h17 ?a17 ?k17); (case' h17 => wtm_at "st"); (case' a17 => wtm_at "at"))
  | with_reducible refine' g_slice ?_
  | with_reducible refine' g_part ?_
  | with_reducible refine' g_kPart ?_
  | with_reducible refine' g_noPart ?_
  | ((with_reducible refine' g_slL ?h18 ?k18); (case' h18 => wtm_at "sl"); (case' k18 => intro _ _ _ _ _))
  | ((with_reducible refine' g_cat ?h119 ?h219 ?l19 ?k19); (case' h119 => wtm_at "hp"); (case' h219 => wtm_at "hp"); (case' l19 => wtm_at "ln"); (case' k19 => intro _ _ _ _ _))
  | ((with_reducible refine' g_rep ?h120 ?h220 ?h320 ?l20 ?k20); (case' h120 => wtm_at "hp"); (case' h220 => wtm_at "ln"); (case' h320 => wtm_at "ln"); (case' l20 => wtm_at "ln"); (case' k20 => intro _ _ _ _ _))
  | ((with_reducible refine' g_append ?h21 ?l21 ?k21); (case' h21 => wtm_at "hp"); (case' l21 => wtm_at "ln"); (case' k21 => intro _ _ _))
  | ((with_reducible refine' g_kBM ?h22 ?k22); (case' h22 => wtm_at "sl"))
  | ((with_reducible refine' g_kBM0 ?h23 ?k23); (case' h23 => wtm_at "sl"))
  | ((with_reducible refine' g_kL ?h24 ?k24); (case' h24 => wtm_at "sl"))
  | ((with_reducible refine' g_kR1 ?h125 ?h225 ?k25); (case' h125 => wtm_at "ln"); (case' h225 => wtm_at "ln"))
  | ((with_reducible refine' g_kR2 ?h126 ?h226 ?h326 ?h426 ?k26); (case' h126 => wtm_at "ln"); (case' h226 => wtm_at "ln"); (case' h326 => wtm_at "ln"); (case' h426 => wtm_at "ln"))
  | ((with_reducible refine' g_lenL ?h27 ?k27); (case' h27 => wtm_at "sl"))
  | ((with_reducible refine' g_lenT ?h28 ?k28); (case' h28 => wtm_at "st"))
  | ((with_reducible refine' g_listL ?h29 ?k29); (case' h29 => wtm_at "sl"); (case' k29 => intro _ _ _ _ _))
  | ((with_reducible refine' g_tupleL ?h30 ?k30); (case' h30 => wtm_at "sl"); (case' k30 => intro _ _ _ _ _))
  | with_reducible refine' g_max ?_
  | with_reducible refine' g_min ?_
  | with_reducible refine' g_intB ?_
  | with_reducible refine' g_fld ?_
  | with_reducible refine' g_put ?_
  | with_reducible refine' g_dget ?_
  | with_reducible refine' g_isN ?_
  | with_reducible refine' g_notN ?_
  | with_reducible refine' g_ifE ?_
  | with_reducible refine' g_andV ?_
  | with_reducible refine' g_orV ?_
  | with_reducible refine' g_notV ?_
  | with_reducible refine' g_kIf ?_
  | with_reducible refine' g_chain ?_
  | with_reducible refine' g_kCh ?_
  | with_reducible refine' g_sub ?_
  | ((with_reducible refine' g_setI ?h92 ?e92 ?j92 ?k92); (case' h92 => wtm_at "hp"); (case' e92 => first | exact rfl | assumption); (case' j92 => wtm_at "ln"); (case' k92 => intro _ _ _))
  | ((with_reducible refine' g_setL ?h89 ?i89 ?k89); (case' h89 => wtm_at "hp"); (case' i89 => exact ixE rfl (by wtm_at "ln")); (case' k89 => intro _ _ _))
  | ((with_reducible refine' g_gtup ?h93 ?e93 ?k93); (case' h93 => wtm_at "st"); (case' e93 => exact rfl))
  | with_reducible refine' g_gcons ?_
  | with_reducible refine' g_gnil ?_
  | with_reducible refine' g_par ?_
  | with_reducible refine' g_kPar ?_
  | with_reducible refine' g_meth ?_
  | with_reducible refine' g_bm ?_
  | with_reducible refine' g_bm0 ?_
  | with_reducible refine' g_raise ?_
  | with_reducible refine' g_for ?_
  | with_reducible refine' g_iR1 ?_
  | with_reducible refine' g_iR2 ?_
  | with_reducible refine' g_iL ?_
  | with_reducible refine' g_lc ?_
  | with_reducible refine' g_retN ?_
  | with_reducible refine' g_no (b := false) rfl ?_
  | with_reducible refine' g_yes (b := true) rfl ?_)
local macro_rules | `(tactic| wtm_at "go") => `(tactic| repeat (wtm_at "g1"))
local macro_rules | `(tactic| wtm_at "gs") => `(tactic| repeat ((fail_if_success (with_reducible refine' g_ifE ?_)); wtm_at "g1"))
local macro_rules | `(tactic| wtm_at "gi") => `(tactic| repeat ((fail_if_success (with_reducible refine' g_if ?_)); wtm_at "g1"))
local macro_rules | `(tactic| wtm_at "gr") => `(tactic| repeat ((fail_if_success (with_reducible refine' g_ret ?_)); wtm_at "g1"))
local macro_rules | `(tactic| wtm_at "gq") => `(tactic| repeat ((fail_if_success (with_reducible refine' g_asg ?_)); wtm_at "g1"))
/-! ### what a meter tells, by the bank that stands -/
def upd1 (μ : Mt) : Mt := (dueM μ .up none).2
def toldD (μ : Mt) : PyData := .tuple [.list ((bank μ.cells).map PyData.int), .list (μ.stamps.map stD), .bool μ.up, .tuple [.int (bk μ 2), .int (bk μ 3), .int (bk μ 4)], lastB μ]
/-- what was told, at its places -/
def ToldAt (K : PySem.W.Frag) (H : Hp) (l3 l4 t : Addr) (μ : Mt) : Prop := ∃ ws t5 v6, H t = some (.tup [.ref l3, .ref l4, .bl μ.up, .ref t5, v6]) ∧ H l3 = some (.lst ((bank μ.cells).map V.int)) ∧ H l4 = some (.lst ws) ∧ DpAll K H ws (μ.stamps.map stD) ∧ H t5 = some (.tup [.int (bk μ 2), .int (bk μ 3), .int (bk μ 4)]) ∧ Dp K H v6 (lastB μ)
theorem frz_lastB (μ : Mt) : frz (lastB μ) = true := by unfold lastB; split <;> rfl
theorem ToldAt.mx {K : PySem.W.Frag} {S : List Addr} {H H' : Hp} {l3 l4 t : Addr} {μ : Mt} (h : ToldAt K H l3 l4 t μ) (m : Mx S H H') (n : NoTup H S) (h3 : l3 ∉ S) (h4 : l4 ∉ S) : ToldAt K H' l3 l4 t μ := by
  obtain ⟨ws, t5, v6, e1, e2, e3, d, e5, d6⟩ := h
  exact ⟨ws, t5, v6, mx_tup m n e1, m _ _ e2 h3, m _ _ e3 h4, m.sts n d, mx_tup m n e5, d6.mxT m n (frz_lastB μ)⟩
theorem ToldAt.mx0 {K : PySem.W.Frag} {H H' : Hp} {l3 l4 t : Addr} {μ : Mt} (h : ToldAt K H l3 l4 t μ) (m : Mx [] H H') : ToldAt K H' l3 l4 t μ := h.mx m noTup0 (by simp) (by simp)
theorem ToldAt.dp {K : PySem.W.Frag} {H : Hp} {l3 l4 t : Addr} {μ : Mt} (h : ToldAt K H l3 l4 t μ) : Dp K H (.ref t) (toldD μ) := by
  obtain ⟨ws, t5, v6, e1, e2, e3, d, e5, d6⟩ := h
  exact .tup (.of e1) (.cons (Dp.ints (SqL.of e2)) (.cons (.lst (SqL.of e3) d) (.cons (.bl _) (.cons (.tup (.of e5) (.cons (.int _) (.cons (.int _) (.cons (.int _) .nil)))) (.cons d6 .nil)))))
theorem ToldAt.sm {K : PySem.W.Frag} {H : Hp} {l3 l4 t : Addr} {μ : Mt} (h : ToldAt K H l3 l4 t μ) : (∃ o, H l3 = some o) ∧ (∃ o, H l4 = some o) := by
  obtain ⟨ws, t5, v6, e1, e2, e3, _⟩ := h
  exact ⟨⟨_, e2⟩, ⟨_, e3⟩⟩
/-- they tell the same -/
structure Lk (μ ν : Mt) : Prop where
  bn : bank ν.cells = bank μ.cells
  st : ν.stamps = μ.stamps
  up : ν.up = μ.up
  nm : ν.num = μ.num
  ky : ν.key = μ.key
theorem Lk.told {μ ν : Mt} (h : Lk μ ν) : toldD ν = toldD μ := by
  unfold toldD lastB bk
  rw [h.bn, h.st, h.up, h.nm, h.ky]
theorem toldD_ok (μ : Mt) : PyData.eqv (toldD μ) (toldD μ) = true ∧ SeqAt.shaped (toldD μ) = true := by
  have h1 := dep_sts μ.stamps
  have h2 : PyData.eqv (lastB μ) (lastB μ) = true ∧ (lastB μ).canLay0 = true ∧ (lastB μ).depth ≤ 1 := by
    unfold lastB
    split
    · exact ⟨by simp [cdD, PyData.eqv, PyData.eqvAll], by simp [cdD, PyData.canLay0, PyData.canLayAll0], by simp [cdD, PyData.depth, PyData.depthAll]⟩
    · exact ⟨by simp [PyData.eqv], by simp [PyData.canLay0], by simp [PyData.depth]⟩
  refine ⟨by simp [toldD, PyData.eqv, PyData.eqvAll, eqv_ints, eqv_sts, h2.1], ?_⟩
  simp [SeqAt.shaped, toldD, PyData.canLay0, PyData.canLayAll0, lay_ints, lay_sts, PyData.depth, PyData.depthAll, dep_ints, h2.2.1]
  have := h2.2.2
  omega
theorem owed_lk {μ ν : Mt} (e : ∀ i, bk ν i = bk μ i) (s : ν.stamps = μ.stamps) : owed ν = owed μ := by
  unfold owed
  rw [e, e, s]
/-- coming up, told by what is owed -/
theorem upd1_eq {n : Nat} {ν : Mt} (W : Wf n ν) (hd : ν.up = false) : upd1 ν = match owed ν with | none => { ν with up := true } | some s => { ν with stamps := ν.stamps ++ [s], up := true } := by
  have := (does_due W .up none).2 (by simp [doesR, hd])
  unfold upd1
  rw [this]
  show (upM ν none).2 = _
  unfold upM printM
  cases owed ν with
  | none => rfl
  | some s => rfl
/-- cut off ahead of the eleventh step, and come up: it tells what it told -/
theorem cut_lo_k {n : Nat} {μ : Mt} (W : Wf n μ) (hu : μ.up = true) {d : Dd} (hd : d ≠ .up) (hr : refR μ d = none) {c : Nat} (hc : c < 11) : Lk μ (upd1 (dueM μ d (some c)).2) := by
  have W1 := due_wf W d (some c)
  have e1 : (dueM μ d (some c)).2 = { μ with cells := wr μ.cells (stepsOf μ.cells (chsOf μ d)) c, up := false } := by
    rw [dueM_run hd hr]
    show (runM μ (chsOf μ d) (some c)).2 = _
    simp only [runM, writeM, if_pos hc]
  rw [e1] at W1 ⊢
  have eb : ∀ i, bk { μ with cells := wr μ.cells (stepsOf μ.cells (chsOf μ d)) c, up := false } i = bk μ i := fun i => by unfold bk; rw [bank_wr_cut W.any hc]
  have eo : owed { μ with cells := wr μ.cells (stepsOf μ.cells (chsOf μ d)) c, up := false } = none := (owed_lk eb rfl).trans (W.ow hu)
  rw [upd1_eq W1 rfl, eo]
  exact ⟨bank_wr_cut W.any hc, rfl, hu.symm, rfl, rfl⟩
/-- cut off behind the eleventh, and come up: as the deed uncut -/
theorem cut_hi_k {n : Nat} {μ : Mt} (W : Wf n μ) (hu : μ.up = true) {d : Dd} (hd : d ≠ .up) (hr : refR μ d = none) : upd1 (dueM μ d (some 11)).2 = (dueM μ d none).2 := by
  have W1 := due_wf W d (some 11)
  have e1 : (dueM μ d (some 11)).2 = (printM { μ with cells := wr μ.cells (stepsOf μ.cells (chsOf μ d)) 11 } (some 0)).2 := by
    rw [dueM_run hd hr]
    rfl
  have e2 : (dueM μ d none).2 = (printM { μ with cells := wr μ.cells (stepsOf μ.cells (chsOf μ d)) 11 } none).2 := by
    rw [dueM_run hd hr]
    rfl
  rw [e1] at W1
  rw [e1, e2]
  generalize hm : ({ μ with cells := wr μ.cells (stepsOf μ.cells (chsOf μ d)) 11 } : Mt) = m1 at W1
  have hup : m1.up = true := by rw [← hm]; exact hu
  cases eo : owed m1 with
  | none =>
    simp only [printM, eo]
    unfold upd1
    exact upd1_up hup
  | some s =>
    have e3 : (printM m1 (some 0)).2 = { m1 with up := false } := by simp only [printM, eo, if_true]
    rw [e3] at W1 ⊢
    have eo2 : owed { m1 with up := false } = some s := eo
    rw [upd1_eq W1 rfl, eo2]
    have e4 : (printM m1 none).2 = { m1 with stamps := m1.stamps ++ [s] } := by unfold printM; rw [eo]; rfl
    rw [e4]
    cases m1
    simp at hup
    rw [hup]
theorem print_bk (μ : Mt) (cut : Option Nat) (i : Nat) : bk (printM μ cut).2 i = bk μ i ∧ (printM μ cut).2.num = μ.num ∧ (printM μ cut).2.key = μ.key := by
  unfold printM
  cases owed μ with
  | none => exact ⟨rfl, rfl, rfl⟩
  | some s => simp only; split <;> exact ⟨rfl, rfl, rfl⟩
theorem due_nk {μ : Mt} (d : Dd) (c : Option Nat) (hd : d ≠ .up) : (dueM μ d c).2.num = μ.num ∧ (dueM μ d c).2.key = μ.key := by
  cases hr : refR μ d with
  | some r => rw [dueM_ref hd hr]; exact ⟨rfl, rfl⟩
  | none =>
    rw [dueM_run hd hr]
    show (runM μ (chsOf μ d) c).2.num = _ ∧ (runM μ (chsOf μ d) c).2.key = _
    unfold runM
    rcases writeM_cases μ (chsOf μ d) c with ⟨k, _, hk, e⟩ | ⟨_, e⟩
    · rw [e]; exact ⟨rfl, rfl⟩
    · rw [e]; exact (print_bk { μ with cells := wr μ.cells (stepsOf μ.cells (chsOf μ d)) 11 } _ 0).2
section
variable {P : Program} {w : World} {K : PySem.W.Frag} {mg : Str → Option Value} {base : Heap}
local macro_rules | `(tactic| wtm_at "g1") => `(tactic| first
  | ((with_reducible refine' g_fOwn (by assumption) ?h201 ?k201); (case' h201 => wtm_at "hp"))
  | ((with_reducible refine' g_fKey (by assumption) ?h202 ?k202); (case' h202 => wtm_at "hp"))
  | ((with_reducible refine' g_fMem (by assumption) ?h203 ?k203); (case' h203 => wtm_at "hp"))
  | ((with_reducible refine' g_fPri (by assumption) ?h204 ?k204); (case' h204 => wtm_at "hp"))
  | ((with_reducible refine' g_fAwa (by assumption) ?h205 ?k205); (case' h205 => wtm_at "hp"))
  | ((with_reducible refine' g_pAwa (by assumption) ?h206 ?k206); (case' h206 => wtm_at "hp"); (case' k206 => intro _ _ _))
  | ((with_reducible refine' g_kMeth ?h207 ?l207 ?k207); (case' h207 => wtm_at "hp"); (case' l207 => exact rfl)))

local macro_rules | `(tactic| wtm_at "g1") => `(tactic| first
  | ((with_reducible refine' g_dNum ?h311 ?k311); (case' h311 => wtm_at "hp"))
  | ((with_reducible refine' g_dKey ?h312 ?k312); (case' h312 => wtm_at "hp"))
  | ((with_reducible refine' g_dCe ?h313 ?k313); (case' h313 => wtm_at "hp"))
  | ((with_reducible refine' g_dSt ?h314 ?k314); (case' h314 => wtm_at "hp"))
  | ((with_reducible refine' g_dUp ?h315 ?k315); (case' h315 => wtm_at "hp"))
  | ((with_reducible refine' g_kDGetS ?h301 ?l301 ?k301); (case' h301 => wtm_at "hp"); (case' l301 => exact rfl))
  | (with_reducible refine' g_dput ?_)
  | (with_reducible refine' g_iK ?_)
  | ((with_reducible refine' g_disp ?k305); (case' k305 => intro _ _ _ _ _))
  | (with_reducible refine' g_pcons ?_)
  | (with_reducible refine' g_pnil ?_)
  | ((with_reducible refine' g_kDisp ?h306 ?e306 ?f306 ?l306 ?k306); (case' h306 => wtm_at "hp"); (case' e306 => exact rfl); (case' f306 => exact rfl); (case' l306 => wtm_at "ln"); (case' k306 => intro _ _ _))
  | ((with_reducible refine' g_pUp ?h302 ?k302); (case' h302 => wtm_at "hp"); (case' k302 => intro _ _ _))
  | ((with_reducible refine' g_pSt ?h303 ?k303); (case' h303 => wtm_at "hp"); (case' k303 => intro _ _ _))
  | ((with_reducible refine' g_pCe ?h304 ?k304); (case' h304 => wtm_at "hp"); (case' k304 => intro _ _ _)))

local macro_rules | `(tactic| wtm_at "dp") => `(tactic| first
  | assumption
  | ((with_reducible refine' Dp.mx ?m411 ?h411); (case' h411 => assumption); (case' m411 => wtm_at "mo")))
local macro_rules | `(tactic| wtm_at "kk") => `(tactic| first | exact kk_NoneType_tuple | exact kk_NoneType_list | exact kk_NoneType_str | exact kk_NoneType_bool | exact kk_NoneType_int | exact kk_bool_tuple | exact kk_bool_list | exact kk_bool_str | exact kk_bool_bool | exact kk_bool_int | exact kk_int_tuple | exact kk_int_list | exact kk_int_str | exact kk_int_bool | exact kk_int_int | exact kk_str_tuple | exact kk_str_list | exact kk_str_str | exact kk_str_bool | exact kk_str_int | exact kk_list_tuple | exact kk_list_list | exact kk_list_str | exact kk_list_bool | exact kk_list_int | exact kk_tuple_tuple | exact kk_tuple_list | exact kk_tuple_str | exact kk_tuple_bool | exact kk_tuple_int)
local macro_rules | `(tactic| wtm_at "ty") => `(tactic| first
  | assumption
  | ((with_reducible refine' TyX.mx ?m401 ?h401); (case' h401 => assumption); (case' m401 => wtm_at "mo")))
local macro_rules | `(tactic| wtm_at "g1") => `(tactic| first
  | ((with_reducible refine' g_isi ?t402 ?e402 ?k402); (case' t402 => wtm_at "ty"); (case' e402 => wtm_at "kk"))
  | ((with_reducible refine' g_isiT2 ?h403 ?t403 ?e403 ?f403 ?k403); (case' h403 => wtm_at "hp"); (case' t403 => wtm_at "ty"); (case' e403 => wtm_at "kk"); (case' f403 => wtm_at "kk"))
  | ((with_reducible refine' g_ixQL ?h404 ?a404 ?k404); (case' h404 => wtm_at "sl"); (case' a404 => wtm_at "at"))
  | ((with_reducible refine' g_ixQT ?h405 ?a405 ?k405); (case' h405 => wtm_at "st"); (case' a405 => wtm_at "at")))

/-- a meter that stands alike -/
def spLike (T : Tx K mg) : Sp := fun vs H Q _ => ∃ (p pm pp q qc qs : Addr) (μ : Mt) (n : Nat), vs = [.ref p, .ref q] ∧ MetAt K T.C_Meter H p pm pp μ ∧ LmAt K H q qc qs μ ∧ Wf n μ ∧ n < 900 ∧ μ.up = true ∧
  ∀ p2 pm2 pp2 H', H p2 = none → H pm2 = none → H pp2 = none → Mx [] H H' → MetAt K T.C_Meter H' p2 pm2 pp2 μ → Q (.ref p2) H'
theorem c__law_like (T : Tx K mg) : Cl P w K mg base 6 "_law_like" (spLike T) [] := by
  refine T.f__law_like.cl sc__law_like (fun vs H Q E h => ?_) (fun cdv A outer s H vs Q E hr h => ?_)
  · obtain ⟨_, _, _, _, _, _, _, _, rfl, _⟩ := h
    rfl
  · obtain ⟨p, pm, pp, q, qc, qs, μ, n, rfl, M, L, W, hn, eu, k⟩ := h
    have hu := hu_of hr
    have hA := W.any
    have hl := hA.1
    have hln := W.ln
    obtain ⟨dx, ob⟩ := M.ob
    have lo := L.ob
    refine ⟨_, (pss_cons (ps_set (i := 2) sc__law_like.nd rfl (Or.inl rfl) (q_call (c_recovered T) hr (by decide) rfl (passes_call (takes_of rfl rfl rfl rfl) (fun _ _ _ _ h => h)) (pa_cons (pe_dget hu (pv 1) pe_str (fun _ _ => rfl)) (pa_cons (pe_dget hu (pv 1) pe_str (fun _ _ => rfl)) (pa_cons (q_meth0 (mt_Meter_cells T) hr (by decide) (pv 0) (passes_call (takes_of rfl rfl rfl rfl) (fun _ _ _ _ h => h))) (pa_cons (q_meth0 (mt_Meter_stamps T) hr (by decide) (pv 0) (passes_call (takes_of rfl rfl rfl rfl) (fun _ _ _ _ h => h))) pa_nil))))))
      (pss_cons (ps_expr (q_meth0 (mt_Meter_come_up_d T) hr (by decide) (pv 2) (passes_call (takes_of rfl rfl rfl rfl) (fun _ _ _ _ h => h))))
      (pss_one (ps_ret (pv 2))))), ?_⟩
    wtm_at "go"
    refine ⟨p, pm, pp, μ, rfl, M, fun l1 H1 n1 m1 e1 => ?_⟩
    have M1 := M.mx0 m1
    have ob1 := m1.get0 ob
    wtm_at "go"
    refine ⟨p, pm, pp, μ, rfl, M1, fun l2 ws H2 n2 m2 e2 d2 => ?_⟩
    have c2 := m1.trans m2
    wtm_at "go"
    refine ⟨μ.num, μ.key, l1, l2, μ.cells, ws, μ.stamps, rfl, SqL.of (m2.get0 e1), by omega, SqL.of e2, d2, fun _ _ p2 pm2 pp2 H3 f1 f2 f3 m3 M3 => ?_, fun hv => absurd ⟨W.nn, W.kk⟩ hv, fun _ hv => absurd hA hv⟩
    obtain ⟨dx2, ob2⟩ := M3.ob
    wtm_at "go"
    refine ⟨p2, pm2, pp2, ⟨μ.num, μ.key, μ.cells, μ.stamps, false⟩, none, rfl, M3, hA, by show μ.stamps.length < 1000; omega, (fun z => nomatch z), fun _ v H4 m4 M4 d4 => ?_⟩
    have eo : owed ⟨μ.num, μ.key, μ.cells, μ.stamps, false⟩ = none := W.ow eu
    have e2' : (upM ⟨μ.num, μ.key, μ.cells, μ.stamps, false⟩ none).2 = μ := by
      simp only [upM, printM, eo, if_true]
      exact mt_up eu
    rw [e2'] at M4
    wtm_at "go"
    exact k p2 pm2 pp2 H4 (c2.free0 f1) (c2.free0 f2) (c2.free0 f3) (mx_fresh (c2.trans m3) m4 (by simp only [List.mem_cons, List.not_mem_nil, or_false, forall_eq_or_imp, forall_eq]; exact ⟨c2.free0 f1, c2.free0 f2, c2.free0 f3⟩)) M4
/-- what it tells -/
def spTold (T : Tx K mg) : Sp := fun vs H Q _ => ∃ (p pm pp : Addr) (μ : Mt) (n : Nat), vs = [.ref p] ∧ MetAt K T.C_Meter H p pm pp μ ∧ Wf n μ ∧ n < 900 ∧
  ∀ t l3 l4 H', H l3 = none → H l4 = none → Mx [] H H' → ToldAt K H' l3 l4 t μ → Q (.ref t) H'
theorem c__law_told (T : Tx K mg) : Cl P w K mg base 4 "_law_told" (spTold T) [] := by
  refine T.f__law_told.cl sc__law_told (fun vs H Q E h => ?_) (fun cdv A outer s H vs Q E hr h => ?_)
  · obtain ⟨_, _, _, _, _, rfl, _⟩ := h
    rfl
  · obtain ⟨p, pm, pp, μ, n, rfl, M, W, hn, k⟩ := h
    have hA := W.any
    have hl := hA.1
    have hs := stand_le μ.cells
    obtain ⟨hs1, hs2, hs3⟩ := W.sm (by omega)
    obtain ⟨dx, ob⟩ := M.ob
    refine ⟨_, (pss_cons (ps_set (i := 1) sc__law_told.nd rfl (Or.inl rfl) (q_meth0 (mt_Meter_cells T) hr (by decide) (pv 0) (passes_call (takes_of rfl rfl rfl rfl) (fun _ _ _ _ h => h))))
      (pss_cons (ps_set (i := 2) sc__law_told.nd rfl (Or.inl rfl) (pe_op op_mulW pe_int (q_call (c_standing T) hr (by decide) rfl (passes_call (takes_of rfl rfl rfl rfl) (fun _ _ _ _ h => h)) (pa_cons (pv 1) pa_nil))))
      (pss_one (ps_ret (pe_tup (pa_cons (pe_slice (slL K) (pv 1) (po_some (pv 2)) (po_some (pe_op op_add (pv 2) pe_int))) (pa_cons (q_meth0 (mt_Meter_stamps T) hr (by decide) (pv 0) (passes_call (takes_of rfl rfl rfl rfl) (fun _ _ _ _ h => h))) (pa_cons (q_meth0 (mt_Meter_is_up T) hr (by decide) (pv 0) (passes_call (takes_of rfl rfl rfl rfl) (fun _ _ _ _ h => h))) (pa_cons (q_meth0 (mt_Meter_sums T) hr (by decide) (pv 0) (passes_call (takes_of rfl rfl rfl rfl) (fun _ _ _ _ h => h))) (pa_cons (q_meth0 (mt_Meter_last_back T) hr (by decide) (pv 0) (passes_call (takes_of rfl rfl rfl rfl) (fun _ _ _ _ h => h))) pa_nil)))))))))), ?_⟩
    wtm_at "go"
    refine ⟨p, pm, pp, μ, rfl, M, fun l1 H1 n1 m1 e1 => ?_⟩
    wtm_at "go"
    refine ⟨l1, μ.cells, rfl, SqL.of e1, by omega, fun _ H2 m2 => ?_, fun z => absurd hA z⟩
    have e12 := m2.get0 e1
    have c2 := m1.trans m2
    have M2 := M.mx0 c2
    have ob2 := c2.get0 ob
    wtm_at "go"
    rename_i l3 H3 n3 m3 e3
    have ecut : cutV (μ.cells.map V.int) (some (10 * (stand μ.cells : Int))) (some (10 * (stand μ.cells : Int) + 10)) = (bank μ.cells).map V.int := by
      have h1 : (10 * (stand μ.cells : Int)) = (stand μ.cells : Int) * 10 := by omega
      have h2 : (10 * (stand μ.cells : Int) + 10) = ((stand μ.cells : Int) + 1) * 10 := by omega
      rw [h2, h1]
      exact cut_bank hl
    rw [ecut] at e3
    have M3 := M2.mx0 m3
    have ob3 := m3.get0 ob2
    refine ⟨p, pm, pp, μ, rfl, M3, fun l4 ws H4 n4 m4 e4 d4 => ?_⟩
    have M4 := M3.mx0 m4
    have ob4 := m4.get0 ob3
    wtm_at "go"
    refine ⟨p, pm, pp, μ, rfl, M4, ?_⟩
    wtm_at "go"
    refine ⟨p, pm, pp, μ, rfl, M4, hA, fun l5 H5 n5 m5 e5 => ?_⟩
    have M5 := M4.mx0 m5
    have ob5 := m5.get0 ob4
    wtm_at "go"
    refine ⟨p, pm, pp, μ, rfl, M5, hA, Nat.lt_of_lt_of_le hs2 (by decide), Nat.lt_of_lt_of_le hs1 (by decide), Nat.lt_of_lt_of_le (hs3 6) (by decide), Nat.lt_of_lt_of_le (hs3 7) (by decide), fun v6 H6 m6 d6 => ?_⟩
    wtm_at "go"
    rename_i t7 H7 n7 m7 e7
    have c6 := ((m4.trans m5).trans m6).trans m7
    exact k t7 l3 l4 H7 (c2.free0 n3) ((c2.trans m3).free0 n4) ((c2.trans m3).trans c6) ⟨ws, l5, v6, e7, c6.get0 e3, ((m5.trans m6).trans m7).get0 e4, d4.mx ((m5.trans m6).trans m7), (m6.trans m7).get0 e5, d6.mx m7⟩
/-- behind a deed that was cut off, once it came up -/
def spAfter (T : Tx K mg) : Sp := fun vs H Q _ => ∃ (H0 : Hp) (r p pm pp q qc qs t : Addr) (μ : Mt) (d : Dd) (c n : Nat), vs = [.ref r, .ref p, .ref q, .ref t, .int c] ∧ StAt K H0 H r ∧ MetAt K T.C_Meter H p pm pp μ ∧ LmAt K H q qc qs μ ∧ Wf n μ ∧ n < 800 ∧ μ.up = true ∧ DdAt H t d ∧ d ≠ .up ∧ refR μ d = none ∧
  ∀ p2 pm2 pp2 H', H p2 = none → H pm2 = none → H pp2 = none → Mx [r] H H' → StAt K H0 H' r → MetAt K T.C_Meter H' p2 pm2 pp2 (upd1 (dueM μ d (some c)).2) → Q (.ref p2) H'
theorem c__law_after (T : Tx K mg) : Cl P w K mg base 7 "_law_after" (spAfter T) [] := by
  refine T.f__law_after.cl sc__law_after (fun vs H Q E h => ?_) (fun cdv A outer s H vs Q E hr h => ?_)
  · obtain ⟨_, _, _, _, _, _, _, _, _, _, _, _, _, rfl, _⟩ := h
    rfl
  · obtain ⟨H0, r, p, pm, pp, q, qc, qs, t, μ, d, c, n, rfl, S, M, L, W, hn, eu, dd, hd, hrf, k⟩ := h
    have hln := W.ln
    refine ⟨_, (pss_cons (ps_set (i := 5) sc__law_after.nd rfl (Or.inl rfl) (q_call (c__law_like T) hr (by decide) rfl (passes_call (takes_of rfl rfl rfl rfl) (fun _ _ _ _ h => h)) (pa_cons (pv 1) (pa_cons (pv 2) pa_nil))))
      (pss_cons (ps_expr (q_call (c__law_does T) hr (by decide) rfl (passes_call (takes_of rfl rfl rfl rfl) (fun _ _ _ _ h => h)) (pa_cons (pv 5) (pa_cons (pv 3) (pa_cons (pv 4) pa_nil)))))
      (pss_cons (ps_for (passes_of rfl) rfl (pi_range1 rfl T.n_range (pa_cons (q_call (c__law_drawn T) hr (by decide) rfl (passes_call (takes_of rfl rfl rfl rfl) (fun _ _ _ _ h => h)) (pa_cons (pv 0) (pa_cons pe_int pa_nil))) pa_nil)) (pg_name (i := 6) sc__law_after.nd rfl (Or.inl rfl))
      (pss_one (ps_if (pt_not (pt_val (q_meth0 (mt_Meter_is_up T) hr (by decide) (pv 5) (passes_call (takes_of rfl rfl rfl rfl) (fun _ _ _ _ h => h))))) (pss_one (ps_expr (q_meth (mt_Meter_come_up T) hr (by decide) (pv 5) (passes_call (takes_of rfl rfl rfl rfl) (fun _ _ _ _ h => h)) (pa_cons pe_int pa_nil)))) pss_nil)))
      (pss_cons (ps_if (pt_not (pt_val (q_meth0 (mt_Meter_is_up T) hr (by decide) (pv 5) (passes_call (takes_of rfl rfl rfl rfl) (fun _ _ _ _ h => h))))) (pss_one (ps_expr (q_meth0 (mt_Meter_come_up_d T) hr (by decide) (pv 5) (passes_call (takes_of rfl rfl rfl rfl) (fun _ _ _ _ h => h))))) pss_nil)
      (pss_one (ps_ret (pv 5))))))), ?_⟩
    wtm_at "go"
    refine ⟨p, pm, pp, q, qc, qs, μ, n, rfl, M, L, W, by omega, eu, fun p2 pm2 pp2 H1 f1 f2 f3 m1 M1 => ?_⟩
    have hfr : ∀ x ∈ [p2, pm2, pp2], H x = none := by simp only [List.mem_cons, List.not_mem_nil, or_false, forall_eq_or_imp, forall_eq]; exact ⟨f1, f2, f3⟩
    wtm_at "go"
    refine ⟨p2, pm2, pp2, t, μ, d, some c, rfl, M1, W.any, W.sm (by omega), by omega, dd.mx0 m1, fun r hrr => ?_, fun hno v H2 m2 M2 d2 => ?_⟩
    · have : doesR μ d = none := by cases d <;> first | exact hrf | exact absurd rfl hd
      rw [this] at hrr
      cases hrr
    have ed : doesM μ d (some c) = dueM μ d (some c) := ((does_due W d (some c)).2 hno).symm
    rw [ed] at M2
    have W2 := due_wf W d (some c)
    generalize (dueM μ d (some c)).2 = ν at M2 W2 k
    have c2 : Mx [] H H2 := mx_fresh m1 m2 hfr
    have S2 := S.mx0 c2
    clear m1 m2 M1 d2
    wtm_at "go"
    refine ⟨H0, r, 4, rfl, S2, by omega, by omega, fun y H3 y0 y1 m3 S3 => ?_⟩
    have nr : ∀ x ∈ [p2, pm2, pp2], x ≠ r := fun x hx => S.new (hfr x hx)
    have M3 := M2.mx m3 S2.nt (by simpa using nr p2 (by simp)) (by simpa using nr pm2 (by simp)) (by simpa using nr pp2 (by simp))
    have c3 : Mx [r] H H3 := c2.of0.trans m3
    have hln2 := W2.ln
    have W3 : Wf (n + 1 + 1) (upd1 ν) := due_wf W2 .up none
    have hln3 := W3.ln
    have hup1 : (upd1 ν).up = true := by
      by_cases hv : ν.up = true
      · unfold upd1; rw [upd1_up hv]; exact hv
      · have hv : ν.up = false := by simpa using hv
        rw [upd1_eq W2 hv]
        cases owed ν <;> rfl
    have same : ν.up = true → upd1 ν = ν := fun h => by unfold upd1; exact upd1_up h
    clear m3 S2 M2
    wtm_at "go"
    have mv : ∀ {Ha Hb : Hp}, Mx [r] H Ha → StAt K H0 Ha r → Mx [p2, pm2, pp2] Ha Hb → Mx [r] H Hb ∧ StAt K H0 Hb r := fun {Ha Hb} a b m => ⟨fun x o ex hx => m x o (a x o ex hx) (fun z => by have := hfr x z; rw [this] at ex; cases ex), b.mv m (fun x hx => S.mx.free0 (hfr x hx)) (fun hx => (nr r hx) rfl)⟩
    refine g_forR (fun i σ' H' => ∃ ρ x6, σ' = [some (.ref r), some (.ref p), some (.ref q), some (.ref t), some (.int c), some (.ref p2), x6] ∧ Mx [r] H H' ∧ StAt K H0 H' r ∧ MetAt K T.C_Meter H' p2 pm2 pp2 ρ ∧ (ρ = ν ∨ ρ = upd1 ν))
      ⟨ν, none, rfl, c3, S3, M3, .inl rfl⟩ (fun i σ' H4 hi hP => ?_) (fun σ' H4 hP => ?_)
    · clear c3 S3 M3
      obtain ⟨ρ, x6, rfl, c4, S4, M4, hρ⟩ := hP
      obtain ⟨dx4, ob4⟩ := M4.ob
      wtm_at "go"
      refine ⟨p2, pm2, pp2, ρ, rfl, M4, ?_⟩
      wtm_at "go"
      refine g_ite (fun e => ?_) (fun e => ?_)
      · have ev : ρ.up = false := by simpa using e
        have hρ2 : ρ = ν := by
          rcases hρ with h | h
          · exact h
          · rw [h, hup1] at ev; cases ev
        subst hρ2
        wtm_at "go"
        refine ⟨p2, pm2, pp2, ρ, some 0, rfl, M4, W2.any, by omega, (fun z => by rw [ev] at z; cases z), fun _ v H5 m5 M5 d5 => ?_⟩
        have h5 := mv c4 S4 m5
        wtm_at "go"
        refine ⟨(upM ρ (some 0)).2, _, rfl, h5.1, h5.2, M5, ?_⟩
        rw [upd1_eq W2 ev]
        unfold upM printM
        cases owed ρ with
        | none => exact .inr rfl
        | some s => left; cases ρ; simp at ev; rw [ev]; rfl
      · wtm_at "go"
        exact ⟨ρ, _, rfl, c4, S4, M4, hρ⟩
    · clear c3 S3 M3
      obtain ⟨ρ, x6, rfl, c4, S4, M4, hρ⟩ := hP
      obtain ⟨dx4, ob4⟩ := M4.ob
      wtm_at "go"
      refine ⟨p2, pm2, pp2, ρ, rfl, M4, ?_⟩
      wtm_at "go"
      refine g_ite (fun e => ?_) (fun e => ?_)
      · have ev : ρ.up = false := by simpa using e
        have hρ2 : ρ = ν := by
          rcases hρ with h | h
          · exact h
          · rw [h, hup1] at ev; cases ev
        subst hρ2
        wtm_at "go"
        refine ⟨p2, pm2, pp2, ρ, none, rfl, M4, W2.any, by omega, (fun z => by rw [ev] at z; cases z), fun _ v H5 m5 M5 d5 => ?_⟩
        have h5 := mv c4 S4 m5
        have e5 : (upM ρ none).2 = upd1 ρ := by
          have := (does_due W2 .up none).2 (by simp [doesR, ev])
          unfold upd1
          rw [this]
          rfl
        rw [e5] at M5
        wtm_at "go"
        exact k p2 pm2 pp2 H5 f1 f2 f3 h5.1 h5.2 M5
      · have ev : ρ.up = true := by simpa using e
        have e5 : ρ = upd1 ν := by
          rcases hρ with h | h
          · rw [h] at ev ⊢; exact (same ev).symm
          · exact h
        rw [e5] at M4
        wtm_at "go"
        exact k p2 pm2 pp2 H4 f1 f2 f3 c4 S4 M4
end
end Fk
namespace Fk
open PySem PySem.Spec PyProof.Rows L2
local macro_rules | `(tactic| wtm_at "ln") => `(tactic| first
  | omega
  | (simp only [List.length_cons, List.length_nil, List.length_map, List.length_append, List.length_replicate, List.length_take, List.length_drop, List.length_set]; omega)
  | (with_unfolding_all exact (by decide)))
local macro_rules | `(tactic| wtm_at "ar") => `(tactic| first
  | ((with_reducible show CMulW _ _); (refine' mulS ?_ ?_ <;> omega))
  | ((with_reducible show CDivW _ _); (refine' divS ?_ ?_ <;> omega))
  | ((with_reducible show CPow _ _); exact ⟨by decide, by decide, by decide⟩)
  | (show (0 : Int) < _; omega)
  | (with_unfolding_all exact (by decide)))
local macro_rules | `(tactic| wtm_at "at") => `(tactic| first
  | assumption
  | (refine' cl_atE ?e80 ?h80; (case' e80 => first | exact rfl | assumption); (case' h80 => wtm_at "ln"))
  | exact rfl)
local macro_rules | `(tactic| wtm_at "fr") => `(tactic| first
  | assumption
  | ((with_reducible refine' Mx.free0 ?m99 ?h99); (case' h99 => assumption); (case' m99 => wtm_at "mo")))
local macro_rules | `(tactic| wtm_at "hp") => `(tactic| first
  | assumption
  | ((with_reducible refine' Mx.get0 ?m1 ?h1); (case' m1 => assumption); (case' h1 => wtm_at "hp"))
  | ((with_reducible refine' Mx.get ?m2 ?n2 ?h2); (case' m2 => assumption); (case' n2 => wtm_at "nin"); (case' h2 => wtm_at "hp")))
local macro_rules | `(tactic| wtm_at "sl") => `(tactic| first
  | assumption
  | ((with_reducible refine' Mx.sqL0 ?m96 ?h96); (case' h96 => assumption); (case' m96 => wtm_at "mo"))
  | (refine' SqL.of ?h3; (case' h3 => wtm_at "hp"))
  | ((with_reducible refine' Mx.sqL0 ?m4 ?h4); (case' m4 => assumption); (case' h4 => wtm_at "sl"))
  | ((with_reducible refine' Mx.sqL ?m5 ?n5 ?h5); (case' m5 => assumption); (case' n5 => wtm_at "nin"); (case' h5 => wtm_at "sl")))
local macro_rules | `(tactic| wtm_at "st") => `(tactic| first
  | assumption
  | ((with_reducible refine' Mx.sqT0 ?m97 ?h97); (case' h97 => assumption); (case' m97 => wtm_at "mo"))
  | (refine' SqT.of ?h6; (case' h6 => wtm_at "hp"))
  | ((with_reducible refine' Mx.sqT0 ?m7 ?h7); (case' m7 => assumption); (case' h7 => wtm_at "st"))
  | ((with_reducible refine' Mx.sqT ?m8 ?n8 ?h8); (case' m8 => assumption); (case' n8 => wtm_at "nin"); (case' h8 => wtm_at "st")))
local macro_rules | `(tactic| wtm_at "mx") => `(tactic| first
  | assumption
  | exact Mx.refl
  | ((with_reducible refine' Mx.of0 ?h9); (case' h9 => assumption))
  | ((with_reducible refine' Mx.trans ?h10 ?m10); (case' m10 => first | assumption | ((with_reducible refine' Mx.of0 ?q10); (case' q10 => assumption))); (case' h10 => wtm_at "mx")))
local macro_rules | `(tactic| wtm_at "mo") => `(tactic| first
  | wtm_at "mx"
  | ((with_reducible refine' Mx.own ?m90 ?f90 ?k90); (case' k90 => assumption); (case' f90 => wtm_at "fr"); (case' m90 => wtm_at "mo"))
  | ((with_reducible refine' Mx.trans ?h91 ?m91); (case' m91 => first | assumption | ((with_reducible refine' Mx.of0 ?q91); (case' q91 => assumption))); (case' h91 => wtm_at "mo")))
local macro_rules | `(tactic| wtm_at "ne") => `(tactic| first
  | assumption
  | exact Ne.symm (by assumption)
  | ((with_reducible refine' ne_of_none ?x94 ?y94); (case' y94 => assumption); (case' x94 => wtm_at "hp"))
  | ((with_reducible refine' Ne.symm (ne_of_none ?x95 ?y95)); (case' y95 => assumption); (case' x95 => wtm_at "hp")))
local macro_rules | `(tactic| wtm_at "nin") => `(tactic| first
  | assumption
  | exact List.not_mem_nil
  | ((with_reducible refine' List.not_mem_cons_of_ne_of_not_mem ?h98 ?t98); (case' h98 => wtm_at "ne"); (case' t98 => wtm_at "nin")))
local macro_rules | `(tactic| wtm_at "g1") => `(tactic| first
  | ((with_reducible refine' g_var ?h11 ?k11); (case' h11 => exact rfl))
  | with_reducible refine' g_c ?_
  | with_reducible refine' g_op ?_
  | with_reducible refine' g_I0 ?_
  | ((with_reducible refine' g_I ?c12 ?k12); (case' c12 => wtm_at "ar"))
  | with_reducible refine' g_cons ?_
  | with_reducible refine' g_nil ?_
  | with_reducible refine' g_seq ?_
  | with_reducible refine' g_asg ?_
  | with_reducible refine' g_name ?_
  | with_reducible refine' g_ret ?_
  | with_reducible refine' g_if ?_
  | with_reducible refine' g_test ?_
  | with_reducible refine' g_tB ?_
  | with_reducible refine' g_bl ?_
  | ((with_reducible refine' g_eq ?h13 ?k13); (case' h13 => exact rfl))
  | ((with_reducible refine' g_ne ?h14 ?k14); (case' h14 => exact rfl))
  | with_reducible refine' g_CB ?_
  | with_reducible refine' g_call ?_
  | with_reducible refine' g_drop ?_
  | with_reducible refine' g_next ?_
  | with_reducible refine' g_not ?_
  | with_reducible refine' g_and ?_
  | with_reducible refine' g_or ?_
  | with_reducible refine' g_un ?_
  | with_reducible refine' g_U ?_
  | with_reducible refine' g_tup ?_
  | with_reducible refine' g_lst ?_
  | ((with_reducible refine' g_kNew ?h15 ?k15); (case' h15 => wtm_at "ln"); (case' k15 => intro _ _ _ _ _))
  | ((with_reducible refine' g_ixL ?h16 ?a16 ?k16); (case' h16 => wtm_at "sl"); (case' a16 => wtm_at "at"))
  | ((with_reducible refine' g_ixT ?h17 ?a17 ?k17); (case' h17 => wtm_at "st"); (case' a17 => wtm_at "at"))
  | with_reducible refine' g_slice ?_
  | with_reducible refine' g_part ?_
  | with_reducible refine' g_kPart ?_
  | with_reducible refine' g_noPart ?_
  | ((with_reducible refine' g_slL ?h18 ?k18); (case' h18 => wtm_at "sl"); (case' k18 => intro _ _ _ _ _))
  | ((with_reducible refine' g_cat ?h119 ?h219 ?l19 ?k19); (case' h119 => wtm_at "hp"); (case' h219 => wtm_at "hp"); (case' l19 => wtm_at "ln"); (case' k19 => intro _ _ _ _ _))
  | ((with_reducible refine' g_rep ?h120 ?h220 ?h320 ?l20 ?k20); (case' h120 => wtm_at "hp"); (case' h220 => wtm_at "ln"); (case' h320 => wtm_at "ln"); (case' l20 => wtm_at "ln"); (case' k20 => intro _ _ _ _ _))
  | ((with_reducible refine' g_append ?h21 ?l21 ?k21); (case' h21 => wtm_at "hp"); (case' l21 => wtm_at "ln"); (case' k21 => intro _ _ _))
  | ((with_reducible refine' g_kBM ?h22 ?k22); (case' h22 => wtm_at "sl"))
  | ((with_reducible refine' g_kBM0 ?h23 ?k23); (case' h23 => wtm_at "sl"))
  | ((with_reducible refine' g_kL ?h24 ?k24); (case' h24 => wtm_at "sl"))
  | ((with_reducible refine' g_kR1 ?h125 ?h225 ?k25); (case' h125 => wtm_at "ln"); (case' h225 => wtm_at "ln"))
  | ((with_reducible refine' g_kR2 ?h126 ?h226 ?h326 ?h426 ?k26); (case' h126 => wtm_at "ln"); (case' h226 => wtm_at "ln"); (case' h326 => wtm_at "ln"); (case' h426 => wtm_at "ln"))
  | ((with_reducible refine' g_lenL ?h27 ?k27); (case' h27 => wtm_at "sl"))
  | ((with_reducible refine' g_lenT ?h28 ?k28); (case' h28 => wtm_at "st"))
  | ((with_reducible refine' g_listL ?h29 ?k29); (case' h29 => wtm_at "sl"); (case' k29 => intro _ _ _ _ _))
  | ((with_reducible refine' g_tupleL ?h30 ?k30); (case' h30 => wtm_at "sl"); (case' k30 => intro _ _ _ _ _))
  | with_reducible refine' g_max ?_
  | with_reducible refine' g_min ?_
  | with_reducible refine' g_intB ?_
  | with_reducible refine' g_fld ?_
  | with_reducible refine' g_put ?_
  | with_reducible refine' g_dget ?_
  | with_reducible refine' g_isN ?_
  | with_reducible refine' g_notN ?_
  | with_reducible refine' g_ifE ?_
  | with_reducible refine' g_andV ?_
  | with_reducible refine' g_orV ?_
  | with_reducible refine' g_notV ?_
  | with_reducible refine' g_kIf ?_
  | with_reducible refine' g_chain ?_
  | with_reducible refine' g_kCh ?_
  | with_reducible refine' g_sub ?_
  | ((with_reducible refine' g_setI ?h92 ?e92 ?j92 ?k92); (case' h92 => wtm_at "hp"); (case' e92 => first | exact rfl | assumption); (case' j92 => wtm_at "ln"); (case' k92 => intro _ _ _))
  | ((with_reducible refine' g_setL ?h89 ?i89 ?k89); (case' h89 => wtm_at "hp"); (case' i89 => exact ixE rfl (by wtm_at "ln")); (case' k89 => intro _ _ _))
  | ((with_reducible refine' g_gtup ?h93 ?e93 ?k93); (case' h93 => wtm_at "st"); (case' e93 => exact rfl))
  | with_reducible refine' g_gcons ?_
  | with_reducible refine' g_gnil ?_
  | with_reducible refine' g_par ?_
  | with_reducible refine' g_kPar ?_
  | with_reducible refine' g_meth ?_
  | with_reducible refine' g_bm ?_
  | with_reducible refine' g_bm0 ?_
  | with_reducible refine' g_raise ?_
  | with_reducible refine' g_for ?_
  | with_reducible refine' g_iR1 ?_
  | with_reducible refine' g_iR2 ?_
  | with_reducible refine' g_iL ?_
  | with_reducible refine' g_lc ?_
  | with_reducible refine' g_retN ?_
  | with_reducible refine' g_no (b := false) rfl ?_
  | with_reducible refine' g_yes (b := true) rfl ?_)
local macro_rules | `(tactic| wtm_at "go") => `(tactic| repeat (wtm_at "g1"))
local macro_rules | `(tactic| wtm_at "gs") => `(tactic| repeat ((fail_if_success (with_reducible refine' g_ifE ?_)); wtm_at "g1"))
local macro_rules | `(tactic| wtm_at "gi") => `(tactic| repeat ((fail_if_success (with_reducible refine' g_if ?_)); wtm_at "g1"))
local macro_rules | `(tactic| wtm_at "gr") => `(tactic| repeat ((fail_if_success (with_reducible refine' g_ret ?_)); wtm_at "g1"))
local macro_rules | `(tactic| wtm_at "gq") => `(tactic| repeat ((fail_if_success (with_reducible refine' g_asg ?_)); wtm_at "g1"))
theorem ar1 {D D' j j' m B : Nat} (h : D' < D) (hj : j' + 1 ≤ B) (hm : D * B + j < m) : D' * B + j' + 1 < m := by
  have := Nat.mul_le_mul_right B h
  rw [Nat.succ_mul] at this
  generalize D' * B = p' at this ⊢
  generalize D * B = p at this hm
  omega
theorem ar2 {j m B : Nat} (hm : 0 * B + (j + 1) < m) : j + 1 < m := by rw [Nat.zero_mul, Nat.zero_add] at hm; exact hm
theorem ar3 {j B : Nat} : 0 * B + j < j + 1 := by rw [Nat.zero_mul, Nat.zero_add]; exact Nat.lt_succ_self _
/-- what is left of the rounds -/
theorem round_go {D x D' x' j m : Nat} (hx : x' < 2147483647) (hj : j ≤ 238609301) (he : (itN (6 * j) (gN x) / 7) % 9 ≠ 8) (hm : D * 238609302 + j < m) (h : D' < D ∨ (D = 0 ∧ D' = 0 ∧ x' = itN 6 x ∧ (gN x / 7) % 9 = 8)) :
    ∃ m' j', m' < m ∧ j' ≤ 238609301 ∧ (itN (6 * j') (gN x') / 7) % 9 ≠ 8 ∧ D' * 238609302 + j' < m' := by
  rcases h with h | ⟨h1, h2, h3, h4⟩
  · obtain ⟨j', hj', he'⟩ := esc (gN x') (gN_lt _)
    exact ⟨_, j', ar1 h (Nat.succ_le_succ hj') hm, hj', he', Nat.lt_succ_self _⟩
  · cases j with
    | zero => exact absurd h4 he
    | succ j =>
      subst h1 h2
      refine ⟨j + 1, j, ar2 hm, Nat.le_of_succ_le hj, ?_, ar3⟩
      rw [h3]
      have e : itN (6 * j) (gN (itN 6 x)) = itN (6 * (j + 1)) (gN x) := by
        have e1 : gN (itN 6 x) = itN 6 (gN x) := by
          show itN 7 x = itN 6 (itN 1 x)
          rw [← itN_add]
        rw [e1, ← itN_add]
        rfl
      rw [e]
      exact he
theorem toldD_at {K : PySem.W.Frag} {H : Hp} {v : V} {μ : Mt} (h : Dp K H v (toldD μ)) : ∃ t xs t3, v = .ref t ∧ SqT K H t xs ∧ atI xs 3 = some (.ref t3) ∧ SqT K H t3 [.int (bk μ 2), .int (bk μ 3), .int (bk μ 4)] := by
  unfold toldD at h
  cases h with
  | tup h a =>
    cases a with
    | cons h0 a => cases a with
      | cons h1 a => cases a with
        | cons h2 a => cases a with
          | cons h3 a => cases a with
            | cons h4 a =>
              cases a
              cases h3 with
              | tup h3 b =>
                cases b with
                | cons g0 b => cases b with
                  | cons g1 b => cases b with
                    | cons g2 b =>
                      cases b; cases g0; cases g1; cases g2
                      exact ⟨_, _, _, rfl, h, rfl, h3⟩
section
variable {P : Program} {w : World} {K : PySem.W.Frag} {mg : Str → Option Value} {base : Heap}
local macro_rules | `(tactic| wtm_at "g1") => `(tactic| first
  | ((with_reducible refine' g_fOwn (by assumption) ?h201 ?k201); (case' h201 => wtm_at "hp"))
  | ((with_reducible refine' g_fKey (by assumption) ?h202 ?k202); (case' h202 => wtm_at "hp"))
  | ((with_reducible refine' g_fMem (by assumption) ?h203 ?k203); (case' h203 => wtm_at "hp"))
  | ((with_reducible refine' g_fPri (by assumption) ?h204 ?k204); (case' h204 => wtm_at "hp"))
  | ((with_reducible refine' g_fAwa (by assumption) ?h205 ?k205); (case' h205 => wtm_at "hp"))
  | ((with_reducible refine' g_pAwa (by assumption) ?h206 ?k206); (case' h206 => wtm_at "hp"); (case' k206 => intro _ _ _))
  | ((with_reducible refine' g_kMeth ?h207 ?l207 ?k207); (case' h207 => wtm_at "hp"); (case' l207 => exact rfl)))

local macro_rules | `(tactic| wtm_at "g1") => `(tactic| first
  | ((with_reducible refine' g_dNum ?h311 ?k311); (case' h311 => wtm_at "hp"))
  | ((with_reducible refine' g_dKey ?h312 ?k312); (case' h312 => wtm_at "hp"))
  | ((with_reducible refine' g_dCe ?h313 ?k313); (case' h313 => wtm_at "hp"))
  | ((with_reducible refine' g_dSt ?h314 ?k314); (case' h314 => wtm_at "hp"))
  | ((with_reducible refine' g_dUp ?h315 ?k315); (case' h315 => wtm_at "hp"))
  | ((with_reducible refine' g_kDGetS ?h301 ?l301 ?k301); (case' h301 => wtm_at "hp"); (case' l301 => exact rfl))
  | (with_reducible refine' g_dput ?_)
  | (with_reducible refine' g_iK ?_)
  | ((with_reducible refine' g_disp ?k305); (case' k305 => intro _ _ _ _ _))
  | (with_reducible refine' g_pcons ?_)
  | (with_reducible refine' g_pnil ?_)
  | ((with_reducible refine' g_kDisp ?h306 ?e306 ?f306 ?l306 ?k306); (case' h306 => wtm_at "hp"); (case' e306 => exact rfl); (case' f306 => exact rfl); (case' l306 => wtm_at "ln"); (case' k306 => intro _ _ _))
  | ((with_reducible refine' g_pUp ?h302 ?k302); (case' h302 => wtm_at "hp"); (case' k302 => intro _ _ _))
  | ((with_reducible refine' g_pSt ?h303 ?k303); (case' h303 => wtm_at "hp"); (case' k303 => intro _ _ _))
  | ((with_reducible refine' g_pCe ?h304 ?k304); (case' h304 => wtm_at "hp"); (case' k304 => intro _ _ _)))

local macro_rules | `(tactic| wtm_at "dp") => `(tactic| first
  | assumption
  | ((with_reducible refine' Dp.mx ?m411 ?h411); (case' h411 => assumption); (case' m411 => wtm_at "mo")))
local macro_rules | `(tactic| wtm_at "kk") => `(tactic| first | exact kk_NoneType_tuple | exact kk_NoneType_list | exact kk_NoneType_str | exact kk_NoneType_bool | exact kk_NoneType_int | exact kk_bool_tuple | exact kk_bool_list | exact kk_bool_str | exact kk_bool_bool | exact kk_bool_int | exact kk_int_tuple | exact kk_int_list | exact kk_int_str | exact kk_int_bool | exact kk_int_int | exact kk_str_tuple | exact kk_str_list | exact kk_str_str | exact kk_str_bool | exact kk_str_int | exact kk_list_tuple | exact kk_list_list | exact kk_list_str | exact kk_list_bool | exact kk_list_int | exact kk_tuple_tuple | exact kk_tuple_list | exact kk_tuple_str | exact kk_tuple_bool | exact kk_tuple_int)
local macro_rules | `(tactic| wtm_at "ty") => `(tactic| first
  | assumption
  | ((with_reducible refine' TyX.mx ?m401 ?h401); (case' h401 => assumption); (case' m401 => wtm_at "mo")))
local macro_rules | `(tactic| wtm_at "g1") => `(tactic| first
  | ((with_reducible refine' g_isi ?t402 ?e402 ?k402); (case' t402 => wtm_at "ty"); (case' e402 => wtm_at "kk"))
  | ((with_reducible refine' g_isiT2 ?h403 ?t403 ?e403 ?f403 ?k403); (case' h403 => wtm_at "hp"); (case' t403 => wtm_at "ty"); (case' e403 => wtm_at "kk"); (case' f403 => wtm_at "kk"))
  | ((with_reducible refine' g_ixQL ?h404 ?a404 ?k404); (case' h404 => wtm_at "sl"); (case' a404 => wtm_at "at"))
  | ((with_reducible refine' g_ixQT ?h405 ?a405 ?k405); (case' h405 => wtm_at "st"); (case' a405 => wtm_at "at")))

def spLaw (T : Tx K mg) : Sp := fun vs H Q _ => ∃ (a : Addr) (ns : List Int), vs = [.ref a] ∧ SqL K H a (ns.map V.int) ∧ ns.length ≤ 63 ∧ H T.f__law_step.P = some (.tbl #[]) ∧ ∀ H', Q (.bl true) H'
theorem frz_told (μ : Mt) : PyData.eqv (toldD μ) (toldD μ) = true := (toldD_ok μ).1
theorem ok_law (T : Tx K mg) (hne : True) (TB__law_step : LamX.TabB base mg T.f__law_step.c T.f__law_step.P) : FnOk P w K mg base (L2.CX P w) 10 T.f_law.a T.f_law.d ["_law_script"] (spLaw T) := by
  refine T.f_law.F.okX sc_law (fun vs H Q E h => ?_) (fun cdv A outer s H vs Q E hr h => ?_)
  · obtain ⟨_, _, rfl, _⟩ := h
    rfl
  · obtain ⟨a, ns, rfl, hS, hl, hT, fin⟩ := h
    have hu := hu_of hr
    refine ⟨_, (pss_cons (ps_set (i := 1) sc_law.nd rfl (Or.inl rfl) (q_call (c__law_start T) hr (by decide) rfl (passes_call (takes_of rfl rfl rfl rfl) (fun _ _ _ _ h => h)) (pa_cons (pv 0) pa_nil)))
      (pss_cons (ps_asg (q_call (c__law_fresh T) hr (by decide) rfl (passes_call (takes_of rfl rfl rfl rfl) (fun _ _ _ _ h => h)) (pa_cons (pv 1) pa_nil)) (pgT K 2 rfl (pgs_cons (pg_name (i := 2) sc_law.nd rfl (Or.inl rfl)) (pgs_cons (pg_name (i := 3) sc_law.nd rfl (Or.inl rfl)) pgs_nil))))
      (pss_cons (ps_for (passes_of rfl) rfl (pi_range1 rfl T.n_range (pa_cons (q_call (c__law_drawn T) hr (by decide) rfl (passes_call (takes_of rfl rfl rfl rfl) (fun _ _ _ _ h => h)) (pa_cons (pv 1) (pa_cons pe_int pa_nil))) pa_nil)) (pg_name (i := 4) sc_law.nd rfl (Or.inl rfl))
      (pss_one (ps_expr (q_call (c__law_step T hne TB__law_step) hr (by decide) rfl (passes_call (takes_of rfl rfl rfl rfl) (fun _ _ _ _ h => h)) (pa_cons (pv 1) (pa_cons (pv 2) (pa_cons (pv 3) pa_nil)))))))
      (pss_cons (ps_if (pt_not (pt_val (pe_dget hu (pv 3) pe_str (fun _ _ => rfl)))) (pss_cons (ps_expr (q_meth0 (mt_Meter_come_up_d T) hr (by decide) (pv 2) (passes_call (takes_of rfl rfl rfl rfl) (fun _ _ _ _ h => h))))
      (pss_one (ps_expr (q_call (c__law_due T) hr (by decide) rfl (passes_call (takes_of rfl rfl rfl rfl) (fun _ _ _ _ h => h)) (pa_cons (pv 3) (pa_cons (pe_tup (pa_cons pe_str pa_nil)) (pa_cons pe_non pa_nil))))))) pss_nil)
      (pss_cons (ps_set (i := 5) sc_law.nd rfl (Or.inl rfl) (q_call (c__law_deedX T) hr (by decide) rfl (passes_call (takes_of rfl rfl rfl rfl) (fun _ _ _ _ h => h)) (pa_cons (pv 1) (pa_cons (pv 3) pa_nil))))
      (pss_cons (ps_while (passes_of rfl) (PW.pt (pw_or (pt_cmpR op_eq (pe_ix (ixT K) (pv 5) pe_int (fun _ _ => rfl)) pe_str (by first | exact nomark _ | rfl)) (pw_or1 (pt_cmpR op_ne (q_call (c__law_word T) hr (by decide) rfl (passes_call (takes_of rfl rfl rfl rfl) (fun _ _ _ _ h => h)) (pa_cons (pv 3) (pa_cons (pv 5) pa_nil))) pe_str (by first | exact nomark _ | rfl))))) (pss_one (ps_set (i := 5) sc_law.nd rfl (Or.inl rfl) (q_call (c__law_deedX T) hr (by decide) rfl (passes_call (takes_of rfl rfl rfl rfl) (fun _ _ _ _ h => h)) (pa_cons (pv 1) (pa_cons (pv 3) pa_nil))))))
      (pss_cons (ps_set (i := 6) sc_law.nd rfl (Or.inl rfl) (q_call (c__law_told T) hr (by decide) rfl (passes_call (takes_of rfl rfl rfl rfl) (fun _ _ _ _ h => h)) (pa_cons (q_call (c__law_like T) hr (by decide) rfl (passes_call (takes_of rfl rfl rfl rfl) (fun _ _ _ _ h => h)) (pa_cons (pv 2) (pa_cons (pv 3) pa_nil))) pa_nil)))
      (pss_cons (ps_set (i := 7) sc_law.nd rfl (Or.inl rfl) (q_call (c__law_like T) hr (by decide) rfl (passes_call (takes_of rfl rfl rfl rfl) (fun _ _ _ _ h => h)) (pa_cons (pv 2) (pa_cons (pv 3) pa_nil))))
      (pss_cons (ps_expr (q_call (c__law_does T) hr (by decide) rfl (passes_call (takes_of rfl rfl rfl rfl) (fun _ _ _ _ h => h)) (pa_cons (pv 7) (pa_cons (pv 5) (pa_cons pe_non pa_nil)))))
      (pss_cons (ps_set (i := 8) sc_law.nd rfl (Or.inl rfl) (q_call (c__law_told T) hr (by decide) rfl (passes_call (takes_of rfl rfl rfl rfl) (fun _ _ _ _ h => h)) (pa_cons (pv 7) pa_nil)))
      (pss_cons (ps_for (passes_of rfl) rfl (pi_range1 rfl T.n_range (pa_cons pe_int pa_nil)) (pg_name (i := 9) sc_law.nd rfl (Or.inl rfl))
      (pss_cons (ps_set (i := 7) sc_law.nd rfl (Or.inl rfl) (q_call (c__law_after T) hr (by decide) rfl (passes_call (takes_of rfl rfl rfl rfl) (fun _ _ _ _ h => h)) (pa_cons (pv 1) (pa_cons (pv 2) (pa_cons (pv 3) (pa_cons (pv 5) (pa_cons (pv 9) pa_nil)))))))
      (pss_cons (ps_if (pt_cmpR (opNeD K hr.units) (q_call (c__law_told T) hr (by decide) rfl (passes_call (takes_of rfl rfl rfl rfl) (fun _ _ _ _ h => h)) (pa_cons (pv 7) pa_nil)) (pe_ix (ixL K) (pe_lst (pa_cons (pv 6) (pa_cons (pv 8) pa_nil))) (pe_callTy c_int (by rfl) T.n_int (by decide +kernel) (pa_cons (pe_cmpR op_ge (pv 9) pe_int (by first | exact nomark _ | rfl)) pa_nil)) (fun _ _ => rfl)) (by first | exact nomark _ | rfl)) (pss_one (ps_ret pe_bl)) pss_nil)
      (pss_cons (ps_set (i := 10) sc_law.nd rfl (Or.inl rfl) (q_call (c__law_bank T) hr (by decide) rfl (passes_call (takes_of rfl rfl rfl rfl) (fun _ _ _ _ h => h)) (pa_cons (q_meth0 (mt_Meter_cells T) hr (by decide) (pv 7) (passes_call (takes_of rfl rfl rfl rfl) (fun _ _ _ _ h => h))) pa_nil)))
      (pss_cons (ps_set (i := 11) sc_law.nd rfl (Or.inl rfl) (q_call (c__law_code T) hr (by decide) rfl (passes_call (takes_of rfl rfl rfl rfl) (fun _ _ _ _ h => h)) (pa_cons (pe_dget hu (pv 3) pe_str (fun _ _ => rfl)) (pa_cons (pe_dget hu (pv 3) pe_str (fun _ _ => rfl)) (pa_cons (pe_op op_add (pe_ix (ixL K) (pv 10) pe_int (fun _ _ => rfl)) pe_int) (pa_cons pe_int (pa_cons pe_int pa_nil)))))))
      (pss_one (ps_if (PW.pt (pw_or (pt_cmpR op_ne (q_meth (mt_Meter_top_up_d T) hr (by decide) (pv 7) (passes_call (takes_of rfl rfl rfl rfl) (fun _ _ _ _ h => h)) (pa_cons (pv 11) pa_nil)) pe_int (by first | exact nomark _ | rfl)) (pw_or1 (pt_cmpR op_ne (pe_ix (ixT K) (q_meth0 (mt_Meter_sums T) hr (by decide) (pv 7) (passes_call (takes_of rfl rfl rfl rfl) (fun _ _ _ _ h => h))) pe_int (fun _ _ => rfl)) (pe_op op_add (pe_ix (ixT K) (pe_ix (ixT K) (pe_ix (ixL K) (pe_lst (pa_cons (pv 6) (pa_cons (pv 8) pa_nil))) (pe_callTy c_int (by rfl) T.n_int (by decide +kernel) (pa_cons (pe_cmpR op_ge (pv 9) pe_int (by first | exact nomark _ | rfl)) pa_nil)) (fun _ _ => rfl)) pe_int (fun _ _ => rfl)) pe_int (fun _ _ => rfl)) pe_int) (by first | exact nomark _ | rfl))))) (pss_one (ps_ret pe_bl)) pss_nil)))))))
      (pss_one (ps_ret pe_bl))))))))))))), ?_⟩
    have T0 : LamX.Tabs (TL T) H := fun p hp => by
      rw [List.mem_singleton.mp hp]
      exact LamX.TabS.nil hT
    wtm_at "go"
    refine ⟨a, ns, rfl, hS, hl, fun r H1 n1 m1 S1 => ?_⟩
    obtain ⟨H0, f0, nt0, S1⟩ := S1.cut
    have T1 := Tabs.mx0 T0 m1
    wtm_at "go"
    refine side_freshF T S1 fun t s0 H2 hf m2 S2 D2 F2 e2 => ?_
    have T2 := Tabs.mx T1 m2 S1.nx
    have G2 := F2.gd
    clear m1 S1 T1 m2 hf T0
    wtm_at "go"
    refine ⟨H0, r, 41, rfl, S2, by omega, by omega, fun n H3 n0 n1 m3 S3 => ?_⟩
    have D3 := D2.mr m3 S2
    have T3 := Tabs.mx T2 m3 S2.nx
    clear D2 m3 S2 T2 e2
    wtm_at "go"
    refine g_forR (fun i σ' H' => ∃ s x4, σ' = [some (.ref a), some (.ref r), some (.ref s.p), some (.ref s.q), x4, none, none, none, none, none, none, none] ∧ StAt K H0 H' r ∧ SdAt K T.C_Meter H0 H' r i s ∧ Gd s.μ ∧ LamX.Tabs (TL T) H')
      ⟨s0, none, rfl, S3, D3, G2, T3⟩ (fun i σ' H4 hi hP => ?_) (fun σ' H4 hP => ?_)
    · clear S3 D3 T3 G2
      obtain ⟨s, x4, rfl, S4, D4, G4, T4⟩ := hP
      wtm_at "go"
      refine ⟨H0, r, s, i, rfl, S4, D4, G4, T4, nt0, by omega, fun t5 s' H5 ep eq' S5 D5 G5 T5 => ?_⟩
      wtm_at "go"
      exact ⟨s', _, by rw [ep, eq']; rfl, S5, D5, G5, T5⟩
    · clear S3 D3 T3 G2
      obtain ⟨s, x4, rfl, S4, D4, G4, T4⟩ := hP
      have D5 : SdAt K T.C_Meter H0 H4 r 41 s := D4.mono (by omega)
      clear D4
      wtm_at "gi"
      refine g_cutS (fun N => ∀ s' H5, s'.p = s.p → s'.q = s.q → s'.μ.up = true → StAt K H0 H5 r → SdAt K T.C_Meter H0 H5 r 42 s' → Gd s'.μ → N [some (.ref a), some (.ref r), some (.ref s'.p), some (.ref s'.q), x4, none, none, none, none, none, none, none] H5) (fun N hN => ?_) (fun s1 H5 ep eq' eu S6 D6 G6 => ?_)
      · obtain ⟨lo10, lc10, ⟨ls10, lst10, ldp10⟩, lne10⟩ := D5.pr.l
        obtain ⟨dx10, ob10⟩ := D5.pr.m.ob
        have W := D5.wf
        have hln := W.ln
        wtm_at "go"
        refine g_ite (fun e => ?_) (fun e => ?_)
        · have eu : s.μ.up = false := by simpa using e
          have ed : dueM s.μ .up none = upM s.μ none := (does_due W .up none).2 (by simp [doesR, eu])
          wtm_at "go"
          refine ⟨s.p, s.pm, s.pp, s.μ, none, rfl, D5.pr.m, W.any, by omega, (fun z => by rw [eu] at z; cases z), fun _ v3 H11 m11 M11 d11 => ?_⟩
          rw [← ed] at M11 d11
          have N11 := side_first D5 S4 m11 M11 d11
          have T11 := Tabs.mx T4 m11 D5.pr.m.nx
          wtm_at "go"
          rename_i td H12 n12 m12 e12
          refine side_due2 (N11.mx0 m12) (Tabs.mx0 T11 m12) (by omega) e12 fun v4 qs4 H13 hq4 m13 T13 S13 D13 d13 d13' => ?_
          wtm_at "go"
          refine hN (s.nx qs4 .up none) H13 rfl rfl ?_ S13 D13 (due_gd W G4 .up none)
          show (dueM s.μ .up none).2.up = true
          have := upd1_eq W eu
          unfold upd1 at this
          rw [this]
          cases owed s.μ <;> rfl
        · have eu : s.μ.up = true := by simpa using e
          wtm_at "go"
          exact hN s H4 rfl rfl eu S4 (D5.mono (by omega)) G4
      clear S4 D5 G4 T4
      obtain ⟨Dd0, xx0, X6⟩ := S6.toX
      have W := D6.wf
      have hf3 := G6.c.f0
      have ro : r ≠ s1.q ∧ r ≠ s1.qc ∧ r ≠ s1.qs := ⟨(D6.fr _ (by simp [Sd.all])).1.symm, (D6.fr _ (by simp [Sd.all])).1.symm, (D6.fr _ (by simp [Sd.all])).1.symm⟩
      wtm_at "go"
      refine ⟨H0, r, s1.q, s1.qc, s1.qs, s1.μ, 42, Dd0, xx0, rfl, X6, D6.pr.l, W, by omega, hf3, eu, ro.1, ro.2.1, ro.2.2, fun t7 d7 D' x' H7 m7 X7 f7 e7 h7 => ?_⟩
      have D7 := D6.mr m7 S6
      clear S6 D6 X6 m7 f7 h7
      wtm_at "gi"
      refine g_cutS (fun N => ∀ t d H8, d ≠ .up → refR s1.μ d = none → DdAt H8 t d → StAt K H0 H8 r → SdAt K T.C_Meter H0 H8 r 42 s1 → N [some (.ref a), some (.ref r), some (.ref s1.p), some (.ref s1.q), x4, some (.ref t), none, none, none, none, none, none] H8) (fun N hN => ?_) (fun t d H8 hd hrf e8 S8 D8 => ?_)
      · refine ⟨fun m σ' H' => ∃ t d, σ' = [some (.ref a), some (.ref r), some (.ref s1.p), some (.ref s1.q), x4, some (.ref t), none, none, none, none, none, none] ∧ DdAt H' t d ∧ SdAt K T.C_Meter H0 H' r 42 s1 ∧ ∃ D x, StX K H0 H' r D x ∧ ((d ≠ .up ∧ refR s1.μ d = none) ∨ ∃ j, j ≤ 238609301 ∧ (itN (6 * j) (gN x) / 7) % 9 ≠ 8 ∧ D * 238609302 + j < m), ?_, fun m σ' H' hP => ?_⟩
        · obtain ⟨j, hj, he⟩ := esc (gN x') (gN_lt _)
          exact ⟨D' * 238609302 + j + 1, t7, d7, rfl, e7, D7, D', x', X7, .inr ⟨j, hj, he, by omega⟩⟩
        · clear D7 X7 e7
          obtain ⟨t, d, rfl, e9, D9, Dx, x, X9, hm⟩ := hP
          by_cases hgood : d ≠ .up ∧ refR s1.μ d = none
          · obtain ⟨sx, ys, ht, ha0, hs⟩ : ∃ sx ys, H' t = some (.tup ys) ∧ atI ys 0 = some (.str sx) ∧ decide (V.str sx = V.str "come_up") = false := by
              cases d with
              | stamp a => exact ⟨_, _, e9, rfl, by decide +kernel⟩
              | back a => exact ⟨_, _, e9, rfl, by decide +kernel⟩
              | top z => obtain ⟨c, h1, h2⟩ := e9; exact ⟨_, _, h1, rfl, by decide +kernel⟩
              | up => exact absurd rfl hgood.1
            wtm_at "go"
            refine g_no hs ?_
            wtm_at "go"
            refine side_word D9 (by omega) e9 hgood.1 fun H10 m10 => ?_
            wtm_at "go"
            refine g_no (by rw [hgood.2]; simp [wordOf]) ?_
            wtm_at "go"
            exact hN t d H10 hgood.1 hgood.2 (e9.mx0 m10) (X9.at.mx0 m10) (D9.mx0 m10)
          · obtain ⟨j, hj, he, hjm⟩ : ∃ j, j ≤ 238609301 ∧ (itN (6 * j) (gN x) / 7) % 9 ≠ 8 ∧ Dx * 238609302 + j < m := by
              rcases hm with h | h
              · exact absurd h hgood
              · exact h
            have body : ∀ H10, Mx [] H' H10 → ∃ N : L2.St → Hp → Prop, (∀ σ' H', N σ' H' → ∃ m', m' < m ∧ ∃ t d, σ' = [some (.ref a), some (.ref r), some (.ref s1.p), some (.ref s1.q), x4, some (.ref t), none, none, none, none, none, none] ∧ DdAt H' t d ∧ SdAt K T.C_Meter H0 H' r 42 s1 ∧ ∃ D x, StX K H0 H' r D x ∧ ((d ≠ .up ∧ refR s1.μ d = none) ∨ ∃ j, j ≤ 238609301 ∧ (itN (6 * j) (gN x) / 7) % 9 ≠ 8 ∧ D * 238609302 + j < m')) ∧ ∀ td d D2 x2 H11, StX K H0 H11 r D2 x2 → SdAt K T.C_Meter H0 H11 r 42 s1 → DdAt H11 td d → DdX s1.μ d Dx x D2 x2 → N [some (.ref a), some (.ref r), some (.ref s1.p), some (.ref s1.q), x4, some (.ref td), none, none, none, none, none, none] H11 := fun H10 m10 =>
              ⟨fun σ' H' => ∃ m', m' < m ∧ ∃ t d, σ' = [some (.ref a), some (.ref r), some (.ref s1.p), some (.ref s1.q), x4, some (.ref t), none, none, none, none, none, none] ∧ DdAt H' t d ∧ SdAt K T.C_Meter H0 H' r 42 s1 ∧ ∃ D x, StX K H0 H' r D x ∧ ((d ≠ .up ∧ refR s1.μ d = none) ∨ ∃ j, j ≤ 238609301 ∧ (itN (6 * j) (gN x) / 7) % 9 ≠ 8 ∧ D * 238609302 + j < m'), fun _ _ h => h, fun td d D2 x2 H11 X11 D11 e11 h11 => by
                rcases h11 with h | h
                · exact ⟨0, by omega, td, d, rfl, e11, D11, D2, x2, X11, .inl h⟩
                · obtain ⟨m', j', h1, h2, h3, h4⟩ := round_go X11.lt hj he hjm h
                  exact ⟨m', h1, td, d, rfl, e11, D11, D2, x2, X11, .inr ⟨j', h2, h3, h4⟩⟩⟩
            have again : ∀ {H10 : Hp} {N : L2.St → Hp → Prop}, Mx [] H' H10 → (∀ td d D2 x2 H11, StX K H0 H11 r D2 x2 → SdAt K T.C_Meter H0 H11 r 42 s1 → DdAt H11 td d → DdX s1.μ d Dx x D2 x2 → N [some (.ref a), some (.ref r), some (.ref s1.p), some (.ref s1.q), x4, some (.ref td), none, none, none, none, none, none] H11) → ∀ {E : XK} {Q' : VK}, (∀ td d D2 x2 H11, StX K H0 H11 r D2 x2 → SdAt K T.C_Meter H0 H11 r 42 s1 → DdAt H11 td d → DdX s1.μ d Dx x D2 x2 → Q' (.ref td) H11) → spDeedX (K := K) ([.ref r, .ref s1.q] ++ []) H10 Q' E := fun {H10 N} m10 _ {E Q'} hQ =>
              ⟨H0, r, s1.q, s1.qc, s1.qs, s1.μ, 42, Dx, x, rfl, X9.mx0 m10, (D9.mx0 m10).pr.l, W, by omega, hf3, eu, ro.1, ro.2.1, ro.2.2, fun t7 d7 D' x' H7 m7 X7 f7 e7 h7 => hQ t7 d7 D' x' H7 X7 ((D9.mx0 m10).mr m7 (X9.mx0 m10).at) e7 h7⟩
            by_cases hup : d = .up
            · subst hup
              have ht : H' t = some (.tup [.str "come_up"]) := e9
              wtm_at "go"
              refine g_yes (by decide +kernel) ?_
              refine g_yes rfl ?_
              obtain ⟨N, hN1, hN2⟩ := body H' Mx.refl
              refine ⟨N, hN1, ?_⟩
              wtm_at "go"
              refine again Mx.refl hN2 fun td d D2 x2 H11 X11 D11 e11 h11 => ?_
              wtm_at "go"
              exact hN2 td d D2 x2 H11 X11 D11 e11 h11
            · obtain ⟨sx, ys, ht, ha0, hs⟩ : ∃ sx ys, H' t = some (.tup ys) ∧ atI ys 0 = some (.str sx) ∧ decide (V.str sx = V.str "come_up") = false := by
                cases d with
                | stamp a => exact ⟨_, _, e9, rfl, by decide +kernel⟩
                | back a => exact ⟨_, _, e9, rfl, by decide +kernel⟩
                | top z => obtain ⟨c, h1, h2⟩ := e9; exact ⟨_, _, h1, rfl, by decide +kernel⟩
                | up => exact absurd rfl hup
              obtain ⟨rf, hrf⟩ : ∃ rf, refR s1.μ d = some rf := by
                cases h : refR s1.μ d with
                | none => exact absurd ⟨hup, h⟩ hgood
                | some rf => exact ⟨rf, rfl⟩
              wtm_at "go"
              refine g_no hs ?_
              wtm_at "go"
              refine side_word D9 (by omega) e9 hup fun H10 m10 => ?_
              wtm_at "go"
              refine g_yes (by rw [hrf]; simpa [wordOf] using word_ne rf) ?_
              obtain ⟨N, hN1, hN2⟩ := body H10 m10
              refine ⟨N, hN1, ?_⟩
              wtm_at "go"
              refine again m10 hN2 fun td d D2 x2 H11 X11 D11 e11 h11 => ?_
              wtm_at "go"
              exact hN2 td d D2 x2 H11 X11 D11 e11 h11
      clear D7 X7 e7
      have hA := W.any
      have sm := W.sm (by omega)
      have hln := W.ln
      have Wn := due_wf W d none
      have lnn := Wn.ln
      have b5 := sm.2.2 5
      have dr : doesR s1.μ d = none := by cases d <;> first | exact hrf | exact absurd rfl hd
      have edn : doesM s1.μ d none = dueM s1.μ d none := ((does_due W d none).2 dr).symm
      wtm_at "go"
      refine ⟨s1.p, s1.pm, s1.pp, s1.q, s1.qc, s1.qs, s1.μ, 42, rfl, D8.pr.m, D8.pr.l, W, by omega, eu, fun p2 pm2 pp2 H9 f1 f2 f3 m9 M9 => ?_⟩
      wtm_at "go"
      refine ⟨p2, pm2, pp2, s1.μ, 42, rfl, M9, W, by omega, fun tb b3 b4 H10 g3 g4 m10 db => ?_⟩
      have hb34 : b3 ≠ r ∧ b4 ≠ r := ⟨(S8.mx0 m9).new g3, (S8.mx0 m9).new g4⟩
      have c10 := m9.trans m10
      have S10 := S8.mx0 c10
      have D10 := D8.mx0 c10
      have e10 := e8.mx0 c10
      clear S8 D8 e8 m9 M9 f1 f2 f3 m10 c10 g3 g4
      wtm_at "go"
      refine ⟨s1.p, s1.pm, s1.pp, s1.q, s1.qc, s1.qs, s1.μ, 42, rfl, D10.pr.m, D10.pr.l, W, by omega, eu, fun p2 pm2 pp2 H11 f1 f2 f3 m11 M11 => ?_⟩
      have hfr : ∀ x ∈ [p2, pm2, pp2], H10 x = none := by simp only [List.mem_cons, List.not_mem_nil, or_false, forall_eq_or_imp, forall_eq]; exact ⟨f1, f2, f3⟩
      wtm_at "go"
      refine ⟨p2, pm2, pp2, t, s1.μ, d, none, rfl, M11, hA, sm, by omega, e10.mx0 m11, fun rf h => (by rw [dr] at h; cases h), fun _ v H12 m12 M12 d12 => ?_⟩
      rw [edn] at M12
      have c12 : Mx [] H10 H12 := mx_fresh m11 m12 hfr
      wtm_at "go"
      refine ⟨p2, pm2, pp2, _, 43, rfl, M12, Wn, by omega, fun th h3 h4 H13 g5 g6 m13 dh => ?_⟩
      have hh34 : h3 ≠ r ∧ h4 ≠ r := ⟨(S10.mx0 c12).new g5, (S10.mx0 c12).new g6⟩
      have c13 := c12.trans m13
      have S13 := S10.mx0 c13
      have D13 := D10.mx0 c13
      have e13 := e10.mx0 c13
      have db13 := db.mx0 c13
      clear S10 D10 e10 db c13 c12 m13 M12 m12 d12 M11 m11 f1 f2 f3 hfr g5 g6
      wtm_at "go"
      refine g_forR (fun i σ' H' => ∃ x7 x9 x10 x11, σ' = [some (.ref a), some (.ref r), some (.ref s1.p), some (.ref s1.q), x4, some (.ref t), some (.ref tb), x7, some (.ref th), x9, x10, x11] ∧ StAt K H0 H' r ∧ SdAt K T.C_Meter H0 H' r 42 s1 ∧ DdAt H' t d ∧ ToldAt K H' b3 b4 tb s1.μ ∧ ToldAt K H' h3 h4 th (dueM s1.μ d none).2)
        ⟨_, none, none, none, rfl, S13, D13, e13, db13, dh⟩ (fun i σ' H14 hi hP => ?_) (fun σ' H14 hP => ?_)
      · clear S13 D13 e13 db13 dh
        obtain ⟨x7, x9, x10, x11, rfl, S14, D14, e14, db14, dh14⟩ := hP
        have hi12 : i < 12 := hi
        wtm_at "go"
        rw [show (0 : Int) + (i : Int) = (i : Int) by omega]
        refine ⟨H0, r, s1.p, s1.pm, s1.pp, s1.q, s1.qc, s1.qs, t, s1.μ, d, i, 42, rfl, S14, D14.pr.m, D14.pr.l, W, by omega, eu, e14, hd, hrf, fun p3 pm3 pp3 H15 g1 g2 g3 m15 S15 M15 => ?_⟩
        have hfr : ∀ x ∈ [p3, pm3, pp3], H14 x = none := by simp only [List.mem_cons, List.not_mem_nil, or_false, forall_eq_or_imp, forall_eq]; exact ⟨g1, g2, g3⟩
        have D15 := D14.mr m15 S14
        have e15 := e14.mx m15 S14.nt
        have frz1 : ∀ ν, frz (toldD ν) = false := fun ν => rfl
        have Wc := due_wf (due_wf W d (some i)) .up none
        generalize hν : upd1 (dueM s1.μ d (some i)).2 = ν at M15
        have Wν : Wf 44 ν := by rw [← hν]; exact Wc
        -- which of the two it tells
        obtain ⟨tw, ρ, htw, hlk, hup⟩ : ∃ (tw : Addr) (ρ : Mt), ((i < 11 ∧ tw = tb ∧ ρ = s1.μ) ∨ (i = 11 ∧ tw = th ∧ ρ = (dueM s1.μ d none).2)) ∧ toldD ν = toldD ρ ∧ ν.up = true ∧ bk ν 3 = bk ρ 3 ∧ ν.key = s1.μ.key ∧ ν.num = s1.μ.num := by
          by_cases h : i < 11
          · have lk := cut_lo_k W eu hd hrf h
            rw [hν] at lk
            exact ⟨tb, s1.μ, .inl ⟨h, rfl, rfl⟩, lk.told, lk.up.trans eu, by unfold bk; rw [lk.bn], lk.ky, lk.nm⟩
          · have h11 : i = 11 := by omega
            subst h11
            have e := cut_hi_k W eu hd hrf
            rw [hν] at e
            refine ⟨th, _, .inr ⟨rfl, rfl, rfl⟩, by rw [e], ?_, by rw [e], ?_, ?_⟩
            · rw [e]; exact due_up hd eu
            · rw [e]; exact (due_nk d none hd).2
            · rw [e]; exact (due_nk d none hd).1
        have hlnv := Wν.ln
        obtain ⟨dx15, ob15⟩ := M15.ob
        have hnr : ∀ x ∈ [p3, pm3, pp3], x ≠ r := fun x hx => S14.new (hfr x hx)
        have db15 := db14.mx m15 S14.nt (by simpa using hb34.1) (by simpa using hb34.2)
        have dh15 := dh14.mx m15 S14.nt (by simpa using hh34.1) (by simpa using hh34.2)
        have smν := Wν.sm (by omega)
        have b5ν := smν.2.2 5
        wtm_at "go"
        refine ⟨p3, pm3, pp3, ν, 44, rfl, M15, Wν, by omega, fun tν v3 v4 H16 _ _ m16 dν => ?_⟩
        wtm_at "go"
        rename_i l17 H17 n17 m17 e17
        have c17 := m16.trans m17
        refine g_cutF (F := fun Q' => rIxL K (V.ref l17) (V.int (if decide ((i : Int) ≥ 11) = true then 1 else 0)) H17 Q') (fun Q' => Q' (.ref tw) H17) (fun Q' hQ => ?_) ?_
        · rcases htw with ⟨h, rfl, _⟩ | ⟨h, rfl, _⟩
          · rw [show decide ((i : Int) ≥ 11) = false from decide_eq_false (by omega)]
            wtm_at "go"
            exact hQ
          · rw [show decide ((i : Int) ≥ 11) = true from decide_eq_true (by omega)]
            wtm_at "go"
            exact hQ
        have dtw : ∀ H', Mx [] H15 H' → Dp K H' (.ref tw) (toldD ρ) := fun H' m => by
          rcases htw with ⟨h, rfl, rfl⟩ | ⟨h, rfl, rfl⟩
          · exact (db15.mx0 m).dp
          · exact (dh15.mx0 m).dp
        refine g_neD (dν.mx0 m17).dp (dtw _ c17) (toldD_ok ν).2 (toldD_ok ρ).2 ?_
        rw [hlk, frz_told]
        wtm_at "go"
        refine g_no rfl ?_
        have M17 := M15.mx0 c17
        have ob17 := c17.get0 ob15
        wtm_at "go"
        refine ⟨p3, pm3, pp3, ν, rfl, M17, fun lc H18 n18 m18 e18 => ?_⟩
        wtm_at "go"
        refine ⟨lc, ν.cells, rfl, SqL.of e18, Wν.any, fun bb H19 n19 m19 e19 => ?_⟩
        have c19 := (c17.trans m18).trans m19
        have hbν := bank_len Wν.any.1
        have D19 := D15.mx0 c19
        obtain ⟨lo19, _, _, _⟩ := D19.pr.l
        have kk1 := W.kk
        have nn1 := W.nn
        wtm_at "go"
        refine ⟨_, _, _, _, _, rfl, (by unfold Bd; omega), (by unfold Bd; omega), (by show Bd (bk ν 5 + 1); unfold Bd; omega), (by unfold Bd; omega), (by unfold Bd; omega), fun tc H20 n20 m20 e20 => ?_⟩
        have c20 := c19.trans m20
        have M20 := M15.mx0 c20
        have ob20 := c20.get0 ob15
        obtain ⟨z, hz⟩ : ∃ z : Cd, z = mkCd s1.μ.key s1.μ.num (bk ν 5 + 1) 7 1 := ⟨_, rfl⟩
        have ez : H20 tc = some (.tup z.vs) := by rw [hz]; exact e20
        have hg : topR ν z = none := by
          have : good ν.key z ν.num (bk ν 5 + 1) 1 = true := by
            rw [hz, hup.2.2.1, hup.2.2.2]
            simp [good, mkCd, amt]
          simp [topR, hup.1, this]
        have za : z.a = 7 := by rw [hz]; rfl
        have et : topM ν z none = (.int 7, { ν with cells := wr ν.cells (stepsOf ν.cells (topChs ν z)) 11 }) := by
          simp [topM, writeM, za]
        clear m16 m17 e17 e18 m18 m19 c19 m20 lo19
        wtm_at "go"
        refine ⟨p3, pm3, pp3, tc, ν, z, none, rfl, M20, Wν.any, smν, ez, fun rf hrr => (by rw [hg] at hrr; cases hrr), fun _ v H21 m21 M21 d21 => ?_⟩
        rw [et] at M21 d21
        cases d21
        wtm_at "go"
        refine g_no (by simp) ?_
        obtain ⟨dx21, ob21⟩ := M21.ob
        have any21 : Any (wr ν.cells (stepsOf ν.cells (topChs ν z)) 11) := any_wr Wν.any
        wtm_at "go"
        refine ⟨p3, pm3, pp3, _, rfl, M21, any21, fun ls H22 n22 m22 e22 => ?_⟩
        have hbk3 : bk { ν with cells := wr ν.cells (stepsOf ν.cells (topChs ν z)) 11 } 3 = bk ν 3 + 7 := by
          rw [bk_wr Wν.any (topChs_ok ν z)]
          have := news_at Wν.any.1 (chs := topChs ν z) (l := []) (r := [(4, bk ν 4 + z.a), (5, z.c)]) (j := 3) (v := bk ν 3 + z.a) rfl (by simp) (by decide)
          rw [this, za]
        have cend : ∀ {Hx : Hp}, Mx [] H21 Hx → Mx [r] H14 Hx := fun {Hx} m x o ex hx => (m.get0 (m21 x o (c20.get0 (m15 x o ex hx)) (fun zz => by have := hfr x zz; rw [this] at ex; cases ex)))
        have stend : ∀ {Hx : Hp}, Mx [] H21 Hx → StAt K H0 Hx r := fun {Hx} m => ((S15.mx0 c20).mv m21 (fun x hx => S14.mx.free0 (hfr x hx)) (fun hx => hnr r hx rfl)).mx0 m
        have nlist : ∀ x, (∃ o, H14 x = some o) → x ∉ [p3, pm3, pp3] := fun x ⟨o, e⟩ hx => by have := hfr x hx; rw [this] at e; cases e
        have dbe : ∀ {Hx : Hp}, Mx [] H21 Hx → ToldAt K Hx b3 b4 tb s1.μ := fun {Hx} m => ((db15.mx0 c20).mx m21 M20.nt (nlist _ db14.sm.1) (nlist _ db14.sm.2)).mx0 m
        have dhe : ∀ {Hx : Hp}, Mx [] H21 Hx → ToldAt K Hx h3 h4 th (dueM s1.μ d none).2 := fun {Hx} m => ((dh15.mx0 c20).mx m21 M20.nt (nlist _ dh14.sm.1) (nlist _ dh14.sm.2)).mx0 m
        have dtw2 : ∀ {Hx : Hp}, Mx [] H21 Hx → Dp K Hx (.ref tw) (toldD ρ) := fun {Hx} m => by
          rcases htw with ⟨h, rfl, rfl⟩ | ⟨h, rfl, rfl⟩
          · exact (dbe m).dp
          · exact (dhe m).dp
        wtm_at "go"
        rename_i l23 H23 n23 m23 e23
        have c23 := m22.trans m23
        refine g_cutF (F := fun Q' => rIxL K (V.ref l23) (V.int (if decide ((i : Int) ≥ 11) = true then 1 else 0)) H23 Q') (fun Q' => Q' (.ref tw) H23) (fun Q' hQ => ?_) ?_
        · rcases htw with ⟨h, rfl, _⟩ | ⟨h, rfl, _⟩
          · rw [show decide ((i : Int) ≥ 11) = false from decide_eq_false (by omega)]
            wtm_at "go"
            exact hQ
          · rw [show decide ((i : Int) ≥ 11) = true from decide_eq_true (by omega)]
            wtm_at "go"
            exact hQ
        obtain ⟨tq, xs, t3, eq, hxs, ha3, ht3⟩ := toldD_at (dtw2 c23)
        cases eq
        wtm_at "go"
        refine g_no (by rw [hbk3, hup.2.1]; simp) ?_
        wtm_at "go"
        exact ⟨_, _, _, _, rfl, stend c23, D14.mr (cend c23) S14, e14.mx (cend c23) S14.nt, dbe c23, dhe c23⟩
      · obtain ⟨x7, x9, x10, x11, rfl, S14, D14, e14, db14, dh14⟩ := hP
        wtm_at "go"
        exact fin _
end
end Fk
namespace Fk
open PySem PySem.Spec PyProof.Rows L2
local macro_rules | `(tactic| wtm_at "ln") => `(tactic| first
  | omega
  | (simp only [List.length_cons, List.length_nil, List.length_map, List.length_append, List.length_replicate, List.length_take, List.length_drop, List.length_set]; omega)
  | (with_unfolding_all exact (by decide)))
local macro_rules | `(tactic| wtm_at "ar") => `(tactic| first
  | ((with_reducible show CMulW _ _); (refine' mulS ?_ ?_ <;> omega))
  | ((with_reducible show CDivW _ _); (refine' divS ?_ ?_ <;> omega))
  | ((with_reducible show CPow _ _); exact ⟨by decide, by decide, by decide⟩)
  | (show (0 : Int) < _; omega)
  | (with_unfolding_all exact (by decide)))
local macro_rules | `(tactic| wtm_at "at") => `(tactic| first
  | assumption
  | (refine' cl_atE ?e80 ?h80; (case' e80 => first | exact rfl | assumption); (case' h80 => wtm_at "ln"))
  | exact rfl)
local macro_rules | `(tactic| wtm_at "fr") => `(tactic| first
  | assumption
  | ((with_reducible refine' Mx.free0 ?m99 ?h99); (case' h99 => assumption); (case' m99 => wtm_at "mo")))
local macro_rules | `(tactic| wtm_at "hp") => `(tactic| first
  | assumption
  | ((with_reducible refine' Mx.get0 ?m1 ?h1); (case' m1 => assumption); (case' h1 => wtm_at "hp"))
  | ((with_reducible refine' Mx.get ?m2 ?n2 ?h2); (case' m2 => assumption); (case' n2 => wtm_at "nin"); (case' h2 => wtm_at "hp")))
local macro_rules | `(tactic| wtm_at "sl") => `(tactic| first
  | assumption
  | ((with_reducible refine' Mx.sqL0 ?m96 ?h96); (case' h96 => assumption); (case' m96 => wtm_at "mo"))
  | (refine' SqL.of ?h3; (case' h3 => wtm_at "hp"))
  | ((with_reducible refine' Mx.sqL0 ?m4 ?h4); (case' m4 => assumption); (case' h4 => wtm_at "sl"))
  | ((with_reducible refine' Mx.sqL ?m5 ?n5 ?h5); (case' m5 => assumption); (case' n5 => wtm_at "nin"); (case' h5 => wtm_at "sl")))
local macro_rules | `(tactic| wtm_at "st") => `(tactic| first
  | assumption
  | ((with_reducible refine' Mx.sqT0 ?m97 ?h97); (case' h97 => assumption); (case' m97 => wtm_at "mo"))
  | (refine' SqT.of ?h6; (case' h6 => wtm_at "hp"))
  | ((with_reducible refine' Mx.sqT0 ?m7 ?h7); (case' m7 => assumption); (case' h7 => wtm_at "st"))
  | ((with_reducible refine' Mx.sqT ?m8 ?n8 ?h8); (case' m8 => assumption); (case' n8 => wtm_at "nin"); (case' h8 => wtm_at "st")))
local macro_rules | `(tactic| wtm_at "mx") => `(tactic| first
  | assumption
  | exact Mx.refl
  | ((with_reducible refine' Mx.of0 ?h9); (case' h9 => assumption))
  | ((with_reducible refine' Mx.trans ?h10 ?m10); (case' m10 => first | assumption | ((with_reducible refine' Mx.of0 ?q10); (case' q10 => assumption))); (case' h10 => wtm_at "mx")))
local macro_rules | `(tactic| wtm_at "mo") => `(tactic| first
  | wtm_at "mx"
  | ((with_reducible refine' Mx.own ?m90 ?f90 ?k90); (case' k90 => assumption); (case' f90 => wtm_at "fr"); (case' m90 => wtm_at "mo"))
  | ((with_reducible refine' Mx.trans ?h91 ?m91); (case' m91 => first | assumption | ((with_reducible refine' Mx.of0 ?q91); (case' q91 => assumption))); (case' h91 => wtm_at "mo")))
local macro_rules | `(tactic| wtm_at "ne") => `(tactic| first
  | assumption
  | exact Ne.symm (by assumption)
  | ((with_reducible refine' ne_of_none ?x94 ?y94); (case' y94 => assumption); (case' x94 => wtm_at "hp"))
  | ((with_reducible refine' Ne.symm (ne_of_none ?x95 ?y95)); (case' y95 => assumption); (case' x95 => wtm_at "hp")))
local macro_rules | `(tactic| wtm_at "nin") => `(tactic| first
  | assumption
  | exact List.not_mem_nil
  | ((with_reducible refine' List.not_mem_cons_of_ne_of_not_mem ?h98 ?t98); (case' h98 => wtm_at "ne"); (case' t98 => wtm_at "nin")))
local macro_rules | `(tactic| wtm_at "g1") => `(tactic| first
  | ((with_reducible refine' g_var ?h11 ?k11); (case' h11 => exact rfl))
  | with_reducible refine' g_c ?_
  | with_reducible refine' g_op ?_
  | with_reducible refine' g_I0 ?_
  | ((with_reducible refine' g_I ?c12 ?k12); (case' c12 => wtm_at "ar"))
  | with_reducible refine' g_cons ?_
  | with_reducible refine' g_nil ?_
  | with_reducible refine' g_seq ?_
  | with_reducible refine' g_asg ?_
  | with_reducible refine' g_name ?_
  | with_reducible refine' g_ret ?_
  | with_reducible refine' g_if ?_
  | with_reducible refine' g_test ?_
  | with_reducible refine' g_tB ?_
  | with_reducible refine' g_bl ?_
  | ((with_reducible refine' g_eq ?h13 ?k13); (case' h13 => exact rfl))
  | ((with_reducible refine' g_ne ?h14 ?k14); (case' h14 => exact rfl))
  | with_reducible refine' g_CB ?_
  | with_reducible refine' g_call ?_
  | with_reducible refine' g_drop ?_
  | with_reducible refine' g_next ?_
  | with_reducible refine' g_not ?_
  | with_reducible refine' g_and ?_
  | with_reducible refine' g_or ?_
  | with_reducible refine' g_un ?_
  | with_reducible refine' g_U ?_
  | with_reducible refine' g_tup ?_
  | with_reducible refine' g_lst ?_
  | ((with_reducible refine' g_kNew ?h15 ?k15); (case' h15 => wtm_at "ln"); (case' k15 => intro _ _ _ _ _))
  | ((with_reducible refine' g_ixL ?h16 ?a16 ?k16); (case' h16 => wtm_at "sl"); (case' a16 => wtm_at "at"))
  | ((with_reducible refine' g_ixT ?h17 ?a17 ?k17); (case' h17 => wtm_at "st"); (case' a17 => wtm_at "at"))
  | with_reducible refine' g_slice ?_
  | with_reducible refine' g_part ?_
  | with_reducible refine' g_kPart ?_
  | with_reducible refine' g_noPart ?_
  | ((with_reducible refine' g_slL ?h18 ?k18); (case' h18 => wtm_at "sl"); (case' k18 => intro _ _ _ _ _))
  | ((with_reducible refine' g_cat ?h119 ?h219 ?l19 ?k19); (case' h119 => wtm_at "hp"); (case' h219 => wtm_at "hp"); (case' l19 => wtm_at "ln"); (case' k19 => intro _ _ _ _ _))
  | ((with_reducible refine' g_rep ?h120 ?h220 ?h320 ?l20 ?k20); (case' h120 => wtm_at "hp"); (case' h220 => wtm_at "ln"); (case' h320 => wtm_at "ln"); (case' l20 => wtm_at "ln"); (case' k20 => intro _ _ _ _ _))
  | ((with_reducible refine' g_append ?h21 ?l21 ?k21); (case' h21 => wtm_at "hp"); (case' l21 => wtm_at "ln"); (case' k21 => intro _ _ _))
  | ((with_reducible refine' g_kBM ?h22 ?k22); (case' h22 => wtm_at "sl"))
  | ((with_reducible refine' g_kBM0 ?h23 ?k23); (case' h23 => wtm_at "sl"))
  | ((with_reducible refine' g_kL ?h24 ?k24); (case' h24 => wtm_at "sl"))
  | ((with_reducible refine' g_kR1 ?h125 ?h225 ?k25); (case' h125 => wtm_at "ln"); (case' h225 => wtm_at "ln"))
  | ((with_reducible refine' g_kR2 ?h126 ?h226 ?h326 ?h426 ?k26); (case' h126 => wtm_at "ln"); (case' h226 => wtm_at "ln"); (case' h326 => wtm_at "ln"); (case' h426 => wtm_at "ln"))
  | ((with_reducible refine' g_lenL ?h27 ?k27); (case' h27 => wtm_at "sl"))
  | ((with_reducible refine' g_lenT ?h28 ?k28); (case' h28 => wtm_at "st"))
  | ((with_reducible refine' g_listL ?h29 ?k29); (case' h29 => wtm_at "sl"); (case' k29 => intro _ _ _ _ _))
  | ((with_reducible refine' g_tupleL ?h30 ?k30); (case' h30 => wtm_at "sl"); (case' k30 => intro _ _ _ _ _))
  | with_reducible refine' g_max ?_
  | with_reducible refine' g_min ?_
  | with_reducible refine' g_intB ?_
  | with_reducible refine' g_fld ?_
  | with_reducible refine' g_put ?_
  | with_reducible refine' g_dget ?_
  | with_reducible refine' g_isN ?_
  | with_reducible refine' g_notN ?_
  | with_reducible refine' g_ifE ?_
  | with_reducible refine' g_andV ?_
  | with_reducible refine' g_orV ?_
  | with_reducible refine' g_notV ?_
  | with_reducible refine' g_kIf ?_
  | with_reducible refine' g_chain ?_
  | with_reducible refine' g_kCh ?_
  | with_reducible refine' g_sub ?_
  | ((with_reducible refine' g_setI ?h92 ?e92 ?j92 ?k92); (case' h92 => wtm_at "hp"); (case' e92 => first | exact rfl | assumption); (case' j92 => wtm_at "ln"); (case' k92 => intro _ _ _))
  | ((with_reducible refine' g_setL ?h89 ?i89 ?k89); (case' h89 => wtm_at "hp"); (case' i89 => exact ixE rfl (by wtm_at "ln")); (case' k89 => intro _ _ _))
  | ((with_reducible refine' g_gtup ?h93 ?e93 ?k93); (case' h93 => wtm_at "st"); (case' e93 => exact rfl))
  | with_reducible refine' g_gcons ?_
  | with_reducible refine' g_gnil ?_
  | with_reducible refine' g_par ?_
  | with_reducible refine' g_kPar ?_
  | with_reducible refine' g_meth ?_
  | with_reducible refine' g_bm ?_
  | with_reducible refine' g_bm0 ?_
  | with_reducible refine' g_raise ?_
  | with_reducible refine' g_for ?_
  | with_reducible refine' g_iR1 ?_
  | with_reducible refine' g_iR2 ?_
  | with_reducible refine' g_iL ?_
  | with_reducible refine' g_lc ?_
  | with_reducible refine' g_retN ?_
  | with_reducible refine' g_no (b := false) rfl ?_
  | with_reducible refine' g_yes (b := true) rfl ?_)
local macro_rules | `(tactic| wtm_at "go") => `(tactic| repeat (wtm_at "g1"))
local macro_rules | `(tactic| wtm_at "gs") => `(tactic| repeat ((fail_if_success (with_reducible refine' g_ifE ?_)); wtm_at "g1"))
local macro_rules | `(tactic| wtm_at "gi") => `(tactic| repeat ((fail_if_success (with_reducible refine' g_if ?_)); wtm_at "g1"))
local macro_rules | `(tactic| wtm_at "gr") => `(tactic| repeat ((fail_if_success (with_reducible refine' g_ret ?_)); wtm_at "g1"))
local macro_rules | `(tactic| wtm_at "gq") => `(tactic| repeat ((fail_if_success (with_reducible refine' g_asg ?_)); wtm_at "g1"))
theorem law_at {l : PySem.W.OpenLaw} {w : World} {K : PySem.W.Frag} {mg : Str → Option Value} {h : Heap} {fa : Addr} (T : Tx K mg) (hfa : mg "law" = some (.ref fa)) (hT : h.get? T.f__law_step.P = some { cls := .none, data := .fields #[] }) (nP : K.lookup T.f__law_step.P = none) (hC : PySem.W.CodeHd h T.f__law_step.c T.f__law_step.P)
    (hB : ∀ (s : Shared) (us : List Value), us.length = (["_law_script"] : List Str).length → BindsTo s T.f_law.d ⟨us, []⟩ ((["_law_script"] : List Str).zip us)) : LamX.LawAtS l w K (L2.CX l.prog w) 10 63 "_law_script" mg fa h := by
  have e : T.f_law.a = fa := by
    have := T.f_law.g.symm.trans hfa
    cases this
    rfl
  subst e
  refine ⟨T.f_law.d, [(T.f__law_step.c, T.f__law_step.P)], spLaw T, fun p hp => ?_, fun p hp => ?_, fun p hp => ?_, fun s u => hB s [u] rfl, fun H a ns hl _ hT2 hS => ?_, fun base _ _ TB => ok_law T trivial (TB _ (List.Mem.head _))⟩
  · rw [List.mem_singleton.mp hp]; exact hT
  · rw [List.mem_singleton.mp hp]; exact nP
  · rw [List.mem_singleton.mp hp]; exact hC
  · exact ⟨a, ns, rfl, hS, hl, hT2 _ (List.Mem.head _), fun _ => rfl⟩
end Fk
open PySem PySem.W PyProof.Rows
set_option maxRecDepth 100000 in
set_option maxHeartbeats 0 in
theorem hd_test : PySem.Challenge.rw_frankmeter_k06_whole_wholly_or_not_at_al.Holds := by
  w_on; o_law; k_head; (case hw => w_witness2)
  k_fill
  refine LamX.walk_ofTs (l := PySem.Challenge.rw_frankmeter_k06_whole_wholly_or_not_at_al) (n := 63) (k := 10) (x := "_law_script") (CX := fun w => L2.CX (PySem.Challenge.rw_frankmeter_k06_whole_wholly_or_not_at_al).prog w) rfl (by decide) rfl ⟨rfl, by decide, by decide⟩ (fun w h Y => PySem.W.km_in_of Y) ?F ?C
  case C =>
    intro w H s e s2 z
    obtain ⟨_, _, _, _, _, _, _, _, _, _, _, _, z⟩ := z
    exact z
  case F =>
    intro w mg fa h Y KX G hmg
    have hTs := PySem.W.km_tabs_of Y
    refine' Fk.with_co KX G "WIDE" 10 ?az1 fun g_WIDE => ?_
    (case az1 => k_is)
    refine' Fk.with_co KX G "TURN" 1 ?az2 fun g_TURN => ?_
    (case az2 => k_is)
    refine' Fk.with_co KX G "RISING" 2 ?az3 fun g_RISING => ?_
    (case az3 => k_is)
    refine' Fk.with_co KX G "FALLING" 3 ?az4 fun g_FALLING => ?_
    (case az4 => k_is)
    refine' Fk.with_co KX G "CREDIT" 4 ?az5 fun g_CREDIT => ?_
    (case az5 => k_is)
    refine' Fk.with_co KX G "TOPS" 5 ?az6 fun g_TOPS => ?_
    (case az6 => k_is)
    refine' Fk.with_co KX G "BACKS" 6 ?az7 fun g_BACKS => ?_
    (case az7 => k_is)
    refine' Fk.with_co KX G "GIVEN" 7 ?az8 fun g_GIVEN => ?_
    (case az8 => k_is)
    refine' Fk.with_co KX G "STAMP" 8 ?az9 fun g_STAMP => ?_
    (case az9 => k_is)
    refine' Fk.with_co KX G "AMOUNT" 9 ?az10 fun g_AMOUNT => ?_
    (case az10 => k_is)
    refine' Fk.with_co KX G "WHEEL" 999983 ?az11 fun g_WHEEL => ?_
    (case az11 => k_is)
    refine' Fk.with_co KX G "TOP" 1 ?az12 fun g_TOP => ?_
    (case az12 => k_is)
    refine' Fk.with_co KX G "BACK" 2 ?az13 fun g_BACK => ?_
    (case az13 => k_is)
    refine' Fk.with_co KX G "MOST_AMOUNT" 99999 ?az14 fun g_MOST_AMOUNT => ?_
    (case az14 => k_is)
    refine' Fk.with_co KX G "MOST_NUMBER" 9999 ?az15 fun g_MOST_NUMBER => ?_
    (case az15 => k_is)
    refine' Fk.with_co KX G "MOST_KEY" 999981 ?az16 fun g_MOST_KEY => ?_
    (case az16 => k_is)
    refine' Fk.with_bl KX G "ValueError" ?az17 fun n_ValueError => ?_
    (case az17 => k_is)
    refine' Fk.with_bl KX G "int" ?az18 fun n_int => ?_
    (case az18 => k_is)
    refine' Fk.with_bl KX G "isinstance" ?az19 fun n_isinstance => ?_
    (case az19 => k_is)
    refine' Fk.with_bl KX G "len" ?az20 fun n_len => ?_
    (case az20 => k_is)
    refine' Fk.with_bl KX G "list" ?az21 fun n_list => ?_
    (case az21 => k_is)
    refine' Fk.with_bl KX G "max" ?az22 fun n_max => ?_
    (case az22 => k_is)
    refine' Fk.with_bl KX G "range" ?az23 fun n_range => ?_
    (case az23 => k_is)
    refine' Fk.with_ex KX G "FrankError" ?az24 ?ez24 ?kz24 ?bz24 ?tz24 fun x_FrankError => ?_
    (case az24 => k_is); (case ez24 => k_exc); (case kz24 => k_is); (case bz24 => k_is); (case tz24 => k_is)
    refine' Fk.with_ex KX G "NoBank" ?az25 ?ez25 ?kz25 ?bz25 ?tz25 fun x_NoBank => ?_
    (case az25 => k_is); (case ez25 => k_exc); (case kz25 => k_is); (case bz25 => k_is); (case tz25 => k_is)
    refine' Fk.with_ex KX G "BadNumber" ?az26 ?ez26 ?kz26 ?bz26 ?tz26 fun x_BadNumber => ?_
    (case az26 => k_is); (case ez26 => k_exc); (case kz26 => k_is); (case bz26 => k_is); (case tz26 => k_is)
    refine' Fk.with_ex KX G "BadAmount" ?az27 ?ez27 ?kz27 ?bz27 ?tz27 fun x_BadAmount => ?_
    (case az27 => k_is); (case ez27 => k_exc); (case kz27 => k_is); (case bz27 => k_is); (case tz27 => k_is)
    refine' Fk.with_ex KX G "BadCode" ?az28 ?ez28 ?kz28 ?bz28 ?tz28 fun x_BadCode => ?_
    (case az28 => k_is); (case ez28 => k_exc); (case kz28 => k_is); (case bz28 => k_is); (case tz28 => k_is)
    refine' Fk.with_ex KX G "Short" ?az29 ?ez29 ?kz29 ?bz29 ?tz29 fun x_Short => ?_
    (case az29 => k_is); (case ez29 => k_exc); (case kz29 => k_is); (case bz29 => k_is); (case tz29 => k_is)
    refine' Fk.with_ex KX G "Down" ?az30 ?ez30 ?kz30 ?bz30 ?tz30 fun x_Down => ?_
    (case az30 => k_is); (case ez30 => k_exc); (case kz30 => k_is); (case bz30 => k_is); (case tz30 => k_is)
    refine' Fk.with_ex KX G "Up" ?az31 ?ez31 ?kz31 ?bz31 ?tz31 fun x_Up => ?_
    (case az31 => k_is); (case ez31 => k_exc); (case kz31 => k_is); (case bz31 => k_is); (case tz31 => k_is)
    refine' Fk.with_ex KX G "NoMeter" ?az32 ?ez32 ?kz32 ?bz32 ?tz32 fun x_NoMeter => ?_
    (case az32 => k_is); (case ez32 => k_exc); (case kz32 => k_is); (case bz32 => k_is); (case tz32 => k_is)
    refine' Fk.with_ei x_NoBank x_FrankError ?h1z33 ?h2z33 ?h3z33 ?h4z33 ?h5z33 ?h6z33 ?h7z33 ?h8z33 ?h9z33 ?h10z33 fun i_NoBank => ?_
    (case h1z33 => k_is); (case h2z33 => k_is); (case h3z33 => k_is); (case h4z33 => k_is); (case h5z33 => k_is); (case h6z33 => k_is); (case h7z33 => k_is); (case h8z33 => k_is); (case h9z33 => k_is); (case h10z33 => kernel_rfl)
    refine' Fk.with_ei x_BadNumber x_FrankError ?h1z34 ?h2z34 ?h3z34 ?h4z34 ?h5z34 ?h6z34 ?h7z34 ?h8z34 ?h9z34 ?h10z34 fun i_BadNumber => ?_
    (case h1z34 => k_is); (case h2z34 => k_is); (case h3z34 => k_is); (case h4z34 => k_is); (case h5z34 => k_is); (case h6z34 => k_is); (case h7z34 => k_is); (case h8z34 => k_is); (case h9z34 => k_is); (case h10z34 => kernel_rfl)
    refine' Fk.with_ei x_BadAmount x_FrankError ?h1z35 ?h2z35 ?h3z35 ?h4z35 ?h5z35 ?h6z35 ?h7z35 ?h8z35 ?h9z35 ?h10z35 fun i_BadAmount => ?_
    (case h1z35 => k_is); (case h2z35 => k_is); (case h3z35 => k_is); (case h4z35 => k_is); (case h5z35 => k_is); (case h6z35 => k_is); (case h7z35 => k_is); (case h8z35 => k_is); (case h9z35 => k_is); (case h10z35 => kernel_rfl)
    refine' Fk.with_ei x_BadCode x_FrankError ?h1z36 ?h2z36 ?h3z36 ?h4z36 ?h5z36 ?h6z36 ?h7z36 ?h8z36 ?h9z36 ?h10z36 fun i_BadCode => ?_
    (case h1z36 => k_is); (case h2z36 => k_is); (case h3z36 => k_is); (case h4z36 => k_is); (case h5z36 => k_is); (case h6z36 => k_is); (case h7z36 => k_is); (case h8z36 => k_is); (case h9z36 => k_is); (case h10z36 => kernel_rfl)
    refine' Fk.with_ei x_Short x_FrankError ?h1z37 ?h2z37 ?h3z37 ?h4z37 ?h5z37 ?h6z37 ?h7z37 ?h8z37 ?h9z37 ?h10z37 fun i_Short => ?_
    (case h1z37 => k_is); (case h2z37 => k_is); (case h3z37 => k_is); (case h4z37 => k_is); (case h5z37 => k_is); (case h6z37 => k_is); (case h7z37 => k_is); (case h8z37 => k_is); (case h9z37 => k_is); (case h10z37 => kernel_rfl)
    refine' Fk.with_ei x_Down x_FrankError ?h1z38 ?h2z38 ?h3z38 ?h4z38 ?h5z38 ?h6z38 ?h7z38 ?h8z38 ?h9z38 ?h10z38 fun i_Down => ?_
    (case h1z38 => k_is); (case h2z38 => k_is); (case h3z38 => k_is); (case h4z38 => k_is); (case h5z38 => k_is); (case h6z38 => k_is); (case h7z38 => k_is); (case h8z38 => k_is); (case h9z38 => k_is); (case h10z38 => kernel_rfl)
    refine' Fk.with_ei x_Up x_FrankError ?h1z39 ?h2z39 ?h3z39 ?h4z39 ?h5z39 ?h6z39 ?h7z39 ?h8z39 ?h9z39 ?h10z39 fun i_Up => ?_
    (case h1z39 => k_is); (case h2z39 => k_is); (case h3z39 => k_is); (case h4z39 => k_is); (case h5z39 => k_is); (case h6z39 => k_is); (case h7z39 => k_is); (case h8z39 => k_is); (case h9z39 => k_is); (case h10z39 => kernel_rfl)
    refine' Fk.with_ei x_NoMeter x_FrankError ?h1z40 ?h2z40 ?h3z40 ?h4z40 ?h5z40 ?h6z40 ?h7z40 ?h8z40 ?h9z40 ?h10z40 fun i_NoMeter => ?_
    (case h1z40 => k_is); (case h2z40 => k_is); (case h3z40 => k_is); (case h4z40 => k_is); (case h5z40 => k_is); (case h6z40 => k_is); (case h7z40 => k_is); (case h8z40 => k_is); (case h9z40 => k_is); (case h10z40 => kernel_rfl)
    refine' Fk.with_cl KX G "Meter" ?az41 ?h1z41 ?h2z41 ?h3z41 ?h4z41 ?h5z41 ?h6z41 fun cls_Meter g_Meter mk_Meter_ kc_Meter => ?_
    (case az41 => k_is); (case h1z41 => k_is); (case h2z41 => k_is); (case h3z41 => k_is); (case h4z41 => k_is); (case h5z41 => k_is); (case h6z41 => k_is)
    refine' Fk.with_na cls_Meter "own" ?az42 fun na_Meter_own => ?_
    (case az42 => k_is)
    refine' Fk.with_na cls_Meter "key" ?az43 fun na_Meter_key => ?_
    (case az43 => k_is)
    refine' Fk.with_na cls_Meter "memory" ?az44 fun na_Meter_memory => ?_
    (case az44 => k_is)
    refine' Fk.with_na cls_Meter "prints" ?az45 fun na_Meter_prints => ?_
    (case az45 => k_is)
    refine' Fk.with_na cls_Meter "awake" ?az46 fun na_Meter_awake => ?_
    (case az46 => k_is)
    refine' Fk.with_fn KX G "at_first" Fk.s_at_first [] ?az47 ?lz47 ?cz47 ?kz47 ?bz47 fun f_at_first => ?_
    (case az47 => k_is); (case lz47 => k_is); (case cz47 => k_is); (case kz47 => k_is); (case bz47 => exact fun _ _ _ _ _ _ us hl => match us, hl with | [], _ => rfl)
    refine' Fk.with_fn KX G "standing" Fk.s_standing ["cells"] ?az48 ?lz48 ?cz48 ?kz48 ?bz48 fun f_standing => ?_
    (case az48 => k_is); (case lz48 => k_is); (case cz48 => k_is); (case kz48 => k_is); (case bz48 => exact fun _ _ _ _ _ _ us hl => match us, hl with | [_], _ => rfl)
    refine' Fk.with_fn KX G "bank_of" Fk.s_bank_of ["cells"] ?az49 ?lz49 ?cz49 ?kz49 ?bz49 fun f_bank_of => ?_
    (case az49 => k_is); (case lz49 => k_is); (case cz49 => k_is); (case kz49 => k_is); (case bz49 => exact fun _ _ _ _ _ _ us hl => match us, hl with | [_], _ => rfl)
    refine' Fk.with_fn KX G "steps_to" Fk.s_steps_to ["cells", "changes"] ?az50 ?lz50 ?cz50 ?kz50 ?bz50 fun f_steps_to => ?_
    (case az50 => k_is); (case lz50 => k_is); (case cz50 => k_is); (case kz50 => k_is); (case bz50 => exact fun _ _ _ _ _ _ us hl => match us, hl with | [_, _], _ => rfl)
    refine' Fk.with_fn KX G "sign_of" Fk.s_sign_of ["key", "meter", "count", "amount", "kind"] ?az51 ?lz51 ?cz51 ?kz51 ?bz51 fun f_sign_of => ?_
    (case az51 => k_is); (case lz51 => k_is); (case cz51 => k_is); (case kz51 => k_is); (case bz51 => exact fun _ _ _ _ _ _ us hl => match us, hl with | [_, _, _, _, _], _ => rfl)
    refine' Fk.with_fn KX G "code_of" Fk.s_code_of ["key", "meter", "count", "amount", "kind"] ?az52 ?lz52 ?cz52 ?kz52 ?bz52 fun f_code_of => ?_
    (case az52 => k_is); (case lz52 => k_is); (case cz52 => k_is); (case kz52 => k_is); (case bz52 => exact fun _ _ _ _ _ _ us hl => match us, hl with | [_, _, _, _, _], _ => rfl)
    refine' Fk.with_fn KX G "is_amount" Fk.s_is_amount ["amount"] ?az53 ?lz53 ?cz53 ?kz53 ?bz53 fun f_is_amount => ?_
    (case az53 => k_is); (case lz53 => k_is); (case cz53 => k_is); (case kz53 => k_is); (case bz53 => exact fun _ _ _ _ _ _ us hl => match us, hl with | [_], _ => rfl)
    refine' Fk.with_fn KX G "need_amount" Fk.s_need_amount ["amount"] ?az54 ?lz54 ?cz54 ?kz54 ?bz54 fun f_need_amount => ?_
    (case az54 => k_is); (case lz54 => k_is); (case cz54 => k_is); (case kz54 => k_is); (case bz54 => exact fun _ _ _ _ _ _ us hl => match us, hl with | [_], _ => rfl)
    refine' Fk.with_fn KX G "is_good" Fk.s_is_good ["key", "code", "meter", "count", "kind"] ?az55 ?lz55 ?cz55 ?kz55 ?bz55 fun f_is_good => ?_
    (case az55 => k_is); (case lz55 => k_is); (case cz55 => k_is); (case kz55 => k_is); (case bz55 => exact fun _ _ _ _ _ _ us hl => match us, hl with | [_, _, _, _, _], _ => rfl)
    refine' Fk.with_fn KX G "need_key" Fk.s_need_key ["key"] ?az56 ?lz56 ?cz56 ?kz56 ?bz56 fun f_need_key => ?_
    (case az56 => k_is); (case lz56 => k_is); (case cz56 => k_is); (case kz56 => k_is); (case bz56 => exact fun _ _ _ _ _ _ us hl => match us, hl with | [_], _ => rfl)
    refine' Fk.with_fn KX G "need_number" Fk.s_need_number ["number"] ?az57 ?lz57 ?cz57 ?kz57 ?bz57 fun f_need_number => ?_
    (case az57 => k_is); (case lz57 => k_is); (case cz57 => k_is); (case kz57 => k_is); (case bz57 => exact fun _ _ _ _ _ _ us hl => match us, hl with | [_], _ => rfl)
    refine' Fk.with_me cls_Meter "__init__" "Meter.__init__" Fk.s_Meter___init__ ["self", "number", "key"] ?az58 ?iz58 ?lz58 ?cz58 ?kz58 ?bz58 fun m_Meter___init__ => ?_
    (case az58 => k_is); (case iz58 => k_is); (case lz58 => k_is); (case cz58 => k_is); (case kz58 => k_is); (case bz58 => exact fun _ _ _ _ _ _ us hl => match us, hl with | [_, _, _], _ => rfl)
    refine' Fk.with_me cls_Meter "cells" "Meter.cells" Fk.s_Meter_cells ["self"] ?az59 ?iz59 ?lz59 ?cz59 ?kz59 ?bz59 fun m_Meter_cells => ?_
    (case az59 => k_is); (case iz59 => k_is); (case lz59 => k_is); (case cz59 => k_is); (case kz59 => k_is); (case bz59 => exact fun _ _ _ _ _ _ us hl => match us, hl with | [_], _ => rfl)
    refine' Fk.with_me cls_Meter "stamps" "Meter.stamps" Fk.s_Meter_stamps ["self"] ?az60 ?iz60 ?lz60 ?cz60 ?kz60 ?bz60 fun m_Meter_stamps => ?_
    (case az60 => k_is); (case iz60 => k_is); (case lz60 => k_is); (case cz60 => k_is); (case kz60 => k_is); (case bz60 => exact fun _ _ _ _ _ _ us hl => match us, hl with | [_], _ => rfl)
    refine' Fk.with_me cls_Meter "is_up" "Meter.is_up" Fk.s_Meter_is_up ["self"] ?az61 ?iz61 ?lz61 ?cz61 ?kz61 ?bz61 fun m_Meter_is_up => ?_
    (case az61 => k_is); (case iz61 => k_is); (case lz61 => k_is); (case cz61 => k_is); (case kz61 => k_is); (case bz61 => exact fun _ _ _ _ _ _ us hl => match us, hl with | [_], _ => rfl)
    refine' Fk.with_me cls_Meter "sums" "Meter.sums" Fk.s_Meter_sums ["self"] ?az62 ?iz62 ?lz62 ?cz62 ?kz62 ?bz62 fun m_Meter_sums => ?_
    (case az62 => k_is); (case iz62 => k_is); (case lz62 => k_is); (case cz62 => k_is); (case kz62 => k_is); (case bz62 => exact fun _ _ _ _ _ _ us hl => match us, hl with | [_], _ => rfl)
    refine' Fk.with_me cls_Meter "need_up" "Meter.need_up" Fk.s_Meter_need_up ["self"] ?az63 ?iz63 ?lz63 ?cz63 ?kz63 ?bz63 fun m_Meter_need_up => ?_
    (case az63 => k_is); (case iz63 => k_is); (case lz63 => k_is); (case cz63 => k_is); (case kz63 => k_is); (case bz63 => exact fun _ _ _ _ _ _ us hl => match us, hl with | [_], _ => rfl)
    refine' Fk.with_me cls_Meter "write" "Meter.write" Fk.s_Meter_write ["self", "changes", "cut"] ?az64 ?iz64 ?lz64 ?cz64 ?kz64 ?bz64 fun m_Meter_write => ?_
    (case az64 => k_is); (case iz64 => k_is); (case lz64 => k_is); (case cz64 => k_is); (case kz64 => k_is); (case bz64 => exact fun _ _ _ _ _ _ us hl => match us, hl with | [_, _, _], _ => rfl)
    refine' Fk.with_me cls_Meter "owed" "Meter.owed" Fk.s_Meter_owed ["self"] ?az65 ?iz65 ?lz65 ?cz65 ?kz65 ?bz65 fun m_Meter_owed => ?_
    (case az65 => k_is); (case iz65 => k_is); (case lz65 => k_is); (case cz65 => k_is); (case kz65 => k_is); (case bz65 => exact fun _ _ _ _ _ _ us hl => match us, hl with | [_], _ => rfl)
    refine' Fk.with_me cls_Meter "print_owed" "Meter.print_owed" Fk.s_Meter_print_owed ["self", "cut"] ?az66 ?iz66 ?lz66 ?cz66 ?kz66 ?bz66 fun m_Meter_print_owed => ?_
    (case az66 => k_is); (case iz66 => k_is); (case lz66 => k_is); (case cz66 => k_is); (case kz66 => k_is); (case bz66 => exact fun _ _ _ _ _ _ us hl => match us, hl with | [_, _], _ => rfl)
    refine' Fk.with_md cls_Meter "stamp" "Meter.stamp" Fk.s_Meter_stamp ["self", "amount", "cut"] 2 ?az67 ?iz67 ?lz67 ?cz67 ?kz67 ?zz67 ?hnz67 ?bz67 ?b1z67 fun m_Meter_stamp => ?_
    (case az67 => k_is); (case iz67 => k_is); (case lz67 => k_is); (case cz67 => k_is); (case kz67 => k_is); (case zz67 => k_is); (case hnz67 => rfl); (case bz67 => exact fun _ _ _ _ _ _ _ us its hl hi => match us, its, hl, hi with | [_, _, _], [_], _, _ => ⟨_, rfl, rfl⟩); (case b1z67 => exact fun _ _ _ _ _ _ _ us its hl hi => match us, its, hl, hi with | [_, _], [_], _, _ => ⟨_, rfl, rfl⟩)
    refine' Fk.with_md cls_Meter "top_up" "Meter.top_up" Fk.s_Meter_top_up ["self", "code", "cut"] 2 ?az68 ?iz68 ?lz68 ?cz68 ?kz68 ?zz68 ?hnz68 ?bz68 ?b1z68 fun m_Meter_top_up => ?_
    (case az68 => k_is); (case iz68 => k_is); (case lz68 => k_is); (case cz68 => k_is); (case kz68 => k_is); (case zz68 => k_is); (case hnz68 => rfl); (case bz68 => exact fun _ _ _ _ _ _ _ us its hl hi => match us, its, hl, hi with | [_, _, _], [_], _, _ => ⟨_, rfl, rfl⟩); (case b1z68 => exact fun _ _ _ _ _ _ _ us its hl hi => match us, its, hl, hi with | [_, _], [_], _, _ => ⟨_, rfl, rfl⟩)
    refine' Fk.with_md cls_Meter "give_back" "Meter.give_back" Fk.s_Meter_give_back ["self", "amount", "cut"] 2 ?az69 ?iz69 ?lz69 ?cz69 ?kz69 ?zz69 ?hnz69 ?bz69 ?b1z69 fun m_Meter_give_back => ?_
    (case az69 => k_is); (case iz69 => k_is); (case lz69 => k_is); (case cz69 => k_is); (case kz69 => k_is); (case zz69 => k_is); (case hnz69 => rfl); (case bz69 => exact fun _ _ _ _ _ _ _ us its hl hi => match us, its, hl, hi with | [_, _, _], [_], _, _ => ⟨_, rfl, rfl⟩); (case b1z69 => exact fun _ _ _ _ _ _ _ us its hl hi => match us, its, hl, hi with | [_, _], [_], _, _ => ⟨_, rfl, rfl⟩)
    refine' Fk.with_me cls_Meter "last_back" "Meter.last_back" Fk.s_Meter_last_back ["self"] ?az70 ?iz70 ?lz70 ?cz70 ?kz70 ?bz70 fun m_Meter_last_back => ?_
    (case az70 => k_is); (case iz70 => k_is); (case lz70 => k_is); (case cz70 => k_is); (case kz70 => k_is); (case bz70 => exact fun _ _ _ _ _ _ us hl => match us, hl with | [_], _ => rfl)
    refine' Fk.with_md cls_Meter "come_up" "Meter.come_up" Fk.s_Meter_come_up ["self", "cut"] 1 ?az71 ?iz71 ?lz71 ?cz71 ?kz71 ?zz71 ?hnz71 ?bz71 ?b1z71 fun m_Meter_come_up => ?_
    (case az71 => k_is); (case iz71 => k_is); (case lz71 => k_is); (case cz71 => k_is); (case kz71 => k_is); (case zz71 => k_is); (case hnz71 => rfl); (case bz71 => exact fun _ _ _ _ _ _ _ us its hl hi => match us, its, hl, hi with | [_, _], [_], _, _ => ⟨_, rfl, rfl⟩); (case b1z71 => exact fun _ _ _ _ _ _ _ us its hl hi => match us, its, hl, hi with | [_], [_], _, _ => ⟨_, rfl, rfl⟩)
    refine' Fk.with_fn KX G "recovered" Fk.s_recovered ["number", "key", "cells", "stamps"] ?az72 ?lz72 ?cz72 ?kz72 ?bz72 fun f_recovered => ?_
    (case az72 => k_is); (case lz72 => k_is); (case cz72 => k_is); (case kz72 => k_is); (case bz72 => exact fun _ _ _ _ _ _ us hl => match us, hl with | [_, _, _, _], _ => rfl)
    refine' Fk.with_fn KX G "_law_start" Fk.s__law_start ["_law_script"] ?az73 ?lz73 ?cz73 ?kz73 ?bz73 fun f__law_start => ?_
    (case az73 => k_is); (case lz73 => k_is); (case cz73 => k_is); (case kz73 => k_is); (case bz73 => exact fun _ _ _ _ _ _ us hl => match us, hl with | [_], _ => rfl)
    refine' Fk.with_fn KX G "_law_drawn" Fk.s__law_drawn ["_law_state", "_law_many"] ?az74 ?lz74 ?cz74 ?kz74 ?bz74 fun f__law_drawn => ?_
    (case az74 => k_is); (case lz74 => k_is); (case cz74 => k_is); (case kz74 => k_is); (case bz74 => exact fun _ _ _ _ _ _ us hl => match us, hl with | [_, _], _ => rfl)
    refine' Fk.with_fn KX G "_law_kind" Fk.s__law_kind ["_law_work"] ?az75 ?lz75 ?cz75 ?kz75 ?bz75 fun f__law_kind => ?_
    (case az75 => k_is); (case lz75 => k_is); (case cz75 => k_is); (case kz75 => k_is); (case bz75 => exact fun _ _ _ _ _ _ us hl => match us, hl with | [_], _ => rfl)
    refine' Fk.with_fn KX G "_law_amount" Fk.s__law_amount ["_law_state"] ?az76 ?lz76 ?cz76 ?kz76 ?bz76 fun f__law_amount => ?_
    (case az76 => k_is); (case lz76 => k_is); (case cz76 => k_is); (case kz76 => k_is); (case bz76 => exact fun _ _ _ _ _ _ us hl => match us, hl with | [_], _ => rfl)
    refine' Fk.with_fn KX G "_law_sign" Fk.s__law_sign ["_law_key", "_law_meter_here", "_law_count", "_law_amount_here", "_law_kind_here"] ?az77 ?lz77 ?cz77 ?kz77 ?bz77 fun f__law_sign => ?_
    (case az77 => k_is); (case lz77 => k_is); (case cz77 => k_is); (case kz77 => k_is); (case bz77 => exact fun _ _ _ _ _ _ us hl => match us, hl with | [_, _, _, _, _], _ => rfl)
    refine' Fk.with_fn KX G "_law_code" Fk.s__law_code ["_law_key", "_law_meter_here", "_law_count", "_law_amount_here", "_law_kind_here"] ?az78 ?lz78 ?cz78 ?kz78 ?bz78 fun f__law_code => ?_
    (case az78 => k_is); (case lz78 => k_is); (case cz78 => k_is); (case kz78 => k_is); (case bz78 => exact fun _ _ _ _ _ _ us hl => match us, hl with | [_, _, _, _, _], _ => rfl)
    refine' Fk.with_fn KX G "_law_meter" Fk.s__law_meter ["_law_number", "_law_key"] ?az79 ?lz79 ?cz79 ?kz79 ?bz79 fun f__law_meter => ?_
    (case az79 => k_is); (case lz79 => k_is); (case cz79 => k_is); (case kz79 => k_is); (case bz79 => exact fun _ _ _ _ _ _ us hl => match us, hl with | [_, _], _ => rfl)
    refine' Fk.with_fn KX G "_law_bank" Fk.s__law_bank ["_law_cells"] ?az80 ?lz80 ?cz80 ?kz80 ?bz80 fun f__law_bank => ?_
    (case az80 => k_is); (case lz80 => k_is); (case cz80 => k_is); (case kz80 => k_is); (case bz80 => exact fun _ _ _ _ _ _ us hl => match us, hl with | [_], _ => rfl)
    refine' Fk.with_fn KX G "_law_steps" Fk.s__law_steps ["_law_m", "_law_news"] ?az81 ?lz81 ?cz81 ?kz81 ?bz81 fun f__law_steps => ?_
    (case az81 => k_is); (case lz81 => k_is); (case cz81 => k_is); (case kz81 => k_is); (case bz81 => exact fun _ _ _ _ _ _ us hl => match us, hl with | [_, _], _ => rfl)
    refine' Fk.with_fn KX G "_law_owed" Fk.s__law_owed ["_law_m"] ?az82 ?lz82 ?cz82 ?kz82 ?bz82 fun f__law_owed => ?_
    (case az82 => k_is); (case lz82 => k_is); (case cz82 => k_is); (case kz82 => k_is); (case bz82 => exact fun _ _ _ _ _ _ us hl => match us, hl with | [_], _ => rfl)
    refine' Fk.with_fn KX G "_law_run" Fk.s__law_run ["_law_m", "_law_news", "_law_cut_here"] ?az83 ?lz83 ?cz83 ?kz83 ?bz83 fun f__law_run => ?_
    (case az83 => k_is); (case lz83 => k_is); (case cz83 => k_is); (case kz83 => k_is); (case bz83 => exact fun _ _ _ _ _ _ us hl => match us, hl with | [_, _, _], _ => rfl)
    refine' Fk.with_fn KX G "_law_word" Fk.s__law_word ["_law_m", "_law_deed_here"] ?az84 ?lz84 ?cz84 ?kz84 ?bz84 fun f__law_word => ?_
    (case az84 => k_is); (case lz84 => k_is); (case cz84 => k_is); (case kz84 => k_is); (case bz84 => exact fun _ _ _ _ _ _ us hl => match us, hl with | [_, _], _ => rfl)
    refine' Fk.with_fn KX G "_law_due" Fk.s__law_due ["_law_m", "_law_deed_here", "_law_cut_here"] ?az85 ?lz85 ?cz85 ?kz85 ?bz85 fun f__law_due => ?_
    (case az85 => k_is); (case lz85 => k_is); (case cz85 => k_is); (case kz85 => k_is); (case bz85 => exact fun _ _ _ _ _ _ us hl => match us, hl with | [_, _, _], _ => rfl)
    refine' Fk.with_fn KX G "_law_does" Fk.s__law_does ["_law_meter_here", "_law_deed_here", "_law_cut_here"] ?az86 ?lz86 ?cz86 ?kz86 ?bz86 fun f__law_does => ?_
    (case az86 => k_is); (case lz86 => k_is); (case cz86 => k_is); (case kz86 => k_is); (case bz86 => exact fun _ _ _ _ _ _ us hl => match us, hl with | [_, _, _], _ => rfl)
    refine' Fk.with_fn KX G "_law_deed" Fk.s__law_deed ["_law_state", "_law_m"] ?az87 ?lz87 ?cz87 ?kz87 ?bz87 fun f__law_deed => ?_
    (case az87 => k_is); (case lz87 => k_is); (case cz87 => k_is); (case kz87 => k_is); (case bz87 => exact fun _ _ _ _ _ _ us hl => match us, hl with | [_, _], _ => rfl)
    refine' Fk.with_fn KX G "_law_cut" Fk.s__law_cut ["_law_state"] ?az88 ?lz88 ?cz88 ?kz88 ?bz88 fun f__law_cut => ?_
    (case az88 => k_is); (case lz88 => k_is); (case cz88 => k_is); (case kz88 => k_is); (case bz88 => exact fun _ _ _ _ _ _ us hl => match us, hl with | [_], _ => rfl)
    refine' Fk.with_fn KX G "_law_fresh" Fk.s__law_fresh ["_law_state"] ?az89 ?lz89 ?cz89 ?kz89 ?bz89 fun f__law_fresh => ?_
    (case az89 => k_is); (case lz89 => k_is); (case cz89 => k_is); (case kz89 => k_is); (case bz89 => exact fun _ _ _ _ _ _ us hl => match us, hl with | [_], _ => rfl)
    refine' Fk.with_fcE KX G "_law_step" Fk.s__law_step ["_law_state", "_law_meter_here", "_law_m"] ?az90 ?lz90 ?ciz90 ?kz90 ?bz90 ?hdz90 ?tz90 ?nz90 fun f__law_step eP_law_step hT_law_step nP_law_step hC_law_step hB_law_step => ?_
    (case az90 => k_is); (case lz90 => k_is); (case ciz90 => k_is); (case kz90 => k_is); (case bz90 => exact fun _ _ _ _ _ _ us hl => match us, hl with | [_, _, _], _ => rfl); (case tz90 => exact hTs _ (List.Mem.head _)); (case nz90 => kernel_rfl); (case hdz90 => kernel_rfl)
    refine' Fk.with_fn KX G "_law_like" Fk.s__law_like ["_law_meter_here", "_law_m"] ?az91 ?lz91 ?cz91 ?kz91 ?bz91 fun f__law_like => ?_
    (case az91 => k_is); (case lz91 => k_is); (case cz91 => k_is); (case kz91 => k_is); (case bz91 => exact fun _ _ _ _ _ _ us hl => match us, hl with | [_, _], _ => rfl)
    refine' Fk.with_fn KX G "_law_told" Fk.s__law_told ["_law_meter_here"] ?az92 ?lz92 ?cz92 ?kz92 ?bz92 fun f__law_told => ?_
    (case az92 => k_is); (case lz92 => k_is); (case cz92 => k_is); (case kz92 => k_is); (case bz92 => exact fun _ _ _ _ _ _ us hl => match us, hl with | [_], _ => rfl)
    refine' Fk.with_fn KX G "_law_after" Fk.s__law_after ["_law_state", "_law_meter_here", "_law_m", "_law_deed_here", "_law_cut_here"] ?az93 ?lz93 ?cz93 ?kz93 ?bz93 fun f__law_after => ?_
    (case az93 => k_is); (case lz93 => k_is); (case cz93 => k_is); (case kz93 => k_is); (case bz93 => exact fun _ _ _ _ _ _ us hl => match us, hl with | [_, _, _, _, _], _ => rfl)
    refine' Fk.with_fnB KX G "law" Fk.s_law ["_law_script"] ?az94 ?lz94 ?cz94 ?kz94 ?bz94 fun f_law hB => ?_
    (case az94 => k_is); (case lz94 => k_is); (case cz94 => k_is); (case kz94 => k_is); (case bz94 => exact fun _ _ _ _ _ _ us hl => match us, hl with | [_], _ => rfl)
    exact Fk.law_at { g_WIDE := g_WIDE, g_TURN := g_TURN, g_RISING := g_RISING, g_FALLING := g_FALLING, g_CREDIT := g_CREDIT, g_TOPS := g_TOPS, g_BACKS := g_BACKS, g_GIVEN := g_GIVEN, g_STAMP := g_STAMP, g_AMOUNT := g_AMOUNT, g_WHEEL := g_WHEEL, g_TOP := g_TOP, g_BACK := g_BACK, g_MOST_AMOUNT := g_MOST_AMOUNT, g_MOST_NUMBER := g_MOST_NUMBER, g_MOST_KEY := g_MOST_KEY, n_ValueError := n_ValueError, n_int := n_int, n_isinstance := n_isinstance, n_len := n_len, n_list := n_list, n_max := n_max, n_range := n_range, E_FrankError := _, x_FrankError := x_FrankError, E_NoBank := _, x_NoBank := x_NoBank, E_BadNumber := _, x_BadNumber := x_BadNumber, E_BadAmount := _, x_BadAmount := x_BadAmount, E_BadCode := _, x_BadCode := x_BadCode, E_Short := _, x_Short := x_Short, E_Down := _, x_Down := x_Down, E_Up := _, x_Up := x_Up, E_NoMeter := _, x_NoMeter := x_NoMeter, hd_FrankError := by k_is, i_NoBank := i_NoBank, i_BadNumber := i_BadNumber, i_BadAmount := i_BadAmount, i_BadCode := i_BadCode, i_Short := i_Short, i_Down := i_Down, i_Up := i_Up, i_NoMeter := i_NoMeter, kt_NoBank_NoBank := by kernel_rfl, kt_NoBank_BadNumber := by kernel_rfl, kt_NoBank_BadAmount := by kernel_rfl, kt_NoBank_BadCode := by kernel_rfl, kt_NoBank_Short := by kernel_rfl, kt_NoBank_Down := by kernel_rfl, kt_NoBank_Up := by kernel_rfl, kt_NoBank_NoMeter := by kernel_rfl, kt_BadNumber_NoBank := by kernel_rfl, kt_BadNumber_BadNumber := by kernel_rfl, kt_BadNumber_BadAmount := by kernel_rfl, kt_BadNumber_BadCode := by kernel_rfl, kt_BadNumber_Short := by kernel_rfl, kt_BadNumber_Down := by kernel_rfl, kt_BadNumber_Up := by kernel_rfl, kt_BadNumber_NoMeter := by kernel_rfl, kt_BadAmount_NoBank := by kernel_rfl, kt_BadAmount_BadNumber := by kernel_rfl, kt_BadAmount_BadAmount := by kernel_rfl, kt_BadAmount_BadCode := by kernel_rfl, kt_BadAmount_Short := by kernel_rfl, kt_BadAmount_Down := by kernel_rfl, kt_BadAmount_Up := by kernel_rfl, kt_BadAmount_NoMeter := by kernel_rfl, kt_BadCode_NoBank := by kernel_rfl, kt_BadCode_BadNumber := by kernel_rfl, kt_BadCode_BadAmount := by kernel_rfl, kt_BadCode_BadCode := by kernel_rfl, kt_BadCode_Short := by kernel_rfl, kt_BadCode_Down := by kernel_rfl, kt_BadCode_Up := by kernel_rfl, kt_BadCode_NoMeter := by kernel_rfl, kt_Short_NoBank := by kernel_rfl, kt_Short_BadNumber := by kernel_rfl, kt_Short_BadAmount := by kernel_rfl, kt_Short_BadCode := by kernel_rfl, kt_Short_Short := by kernel_rfl, kt_Short_Down := by kernel_rfl, kt_Short_Up := by kernel_rfl, kt_Short_NoMeter := by kernel_rfl, kt_Down_NoBank := by kernel_rfl, kt_Down_BadNumber := by kernel_rfl, kt_Down_BadAmount := by kernel_rfl, kt_Down_BadCode := by kernel_rfl, kt_Down_Short := by kernel_rfl, kt_Down_Down := by kernel_rfl, kt_Down_Up := by kernel_rfl, kt_Down_NoMeter := by kernel_rfl, kt_Up_NoBank := by kernel_rfl, kt_Up_BadNumber := by kernel_rfl, kt_Up_BadAmount := by kernel_rfl, kt_Up_BadCode := by kernel_rfl, kt_Up_Short := by kernel_rfl, kt_Up_Down := by kernel_rfl, kt_Up_Up := by kernel_rfl, kt_Up_NoMeter := by kernel_rfl, kt_NoMeter_NoBank := by kernel_rfl, kt_NoMeter_BadNumber := by kernel_rfl, kt_NoMeter_BadAmount := by kernel_rfl, kt_NoMeter_BadCode := by kernel_rfl, kt_NoMeter_Short := by kernel_rfl, kt_NoMeter_Down := by kernel_rfl, kt_NoMeter_Up := by kernel_rfl, kt_NoMeter_NoMeter := by kernel_rfl, C_Meter := _, cls_Meter := cls_Meter, g_Meter := g_Meter, mk_Meter_ := mk_Meter_, kc_Meter := kc_Meter, na_Meter_own := na_Meter_own, na_Meter_key := na_Meter_key, na_Meter_memory := na_Meter_memory, na_Meter_prints := na_Meter_prints, na_Meter_awake := na_Meter_awake, f_at_first := f_at_first, f_standing := f_standing, f_bank_of := f_bank_of, f_steps_to := f_steps_to, f_sign_of := f_sign_of, f_code_of := f_code_of, f_is_amount := f_is_amount, f_need_amount := f_need_amount, f_is_good := f_is_good, f_need_key := f_need_key, f_need_number := f_need_number, m_Meter___init__ := m_Meter___init__, m_Meter_cells := m_Meter_cells, m_Meter_stamps := m_Meter_stamps, m_Meter_is_up := m_Meter_is_up, m_Meter_sums := m_Meter_sums, m_Meter_need_up := m_Meter_need_up, m_Meter_write := m_Meter_write, m_Meter_owed := m_Meter_owed, m_Meter_print_owed := m_Meter_print_owed, m_Meter_stamp := m_Meter_stamp, m_Meter_top_up := m_Meter_top_up, m_Meter_give_back := m_Meter_give_back, m_Meter_last_back := m_Meter_last_back, m_Meter_come_up := m_Meter_come_up, f_recovered := f_recovered, f__law_start := f__law_start, f__law_drawn := f__law_drawn, f__law_kind := f__law_kind, f__law_amount := f__law_amount, f__law_sign := f__law_sign, f__law_code := f__law_code, f__law_meter := f__law_meter, f__law_bank := f__law_bank, f__law_steps := f__law_steps, f__law_owed := f__law_owed, f__law_run := f__law_run, f__law_word := f__law_word, f__law_due := f__law_due, f__law_does := f__law_does, f__law_deed := f__law_deed, f__law_cut := f__law_cut, f__law_fresh := f__law_fresh, f__law_step := f__law_step, f__law_like := f__law_like, f__law_told := f__law_told, f__law_after := f__law_after, f_law := f_law } hmg hT_law_step nP_law_step hC_law_step hB
theorem PySem.Challenge.cw_frankmeter_k06_whole_wholly_or_not_at_al_holds : PySem.Challenge.rw_frankmeter_k06_whole_wholly_or_not_at_al.Holds := by
  exact hd_test

