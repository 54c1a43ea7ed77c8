import PyProof.Rows.All
import Wide.All
import OpenK.AllK
import Wide.FinOn
import HandS.ForMost
import HandS.Codes
import HandS.Style
import HandS.Walk
import HandS.IsInst
import HandS.Wide
import HandS.Defaults
import HandS.Flow
import HandS.Replace
import KE.GoesMore
import KE.GoesZip
import KE.GoesEnum
import PyProof.ListStr
import PyProof.StrBlock2
import HandS.Conv
import HandS.ReplaceList
import HandS.SortInts
import PyProof.Rows.SortShellAny
import PyProof.Rows.StrRev
import HandS.ReplaceLit
import PyProof.Rows.SeqMore
import HandS.HeadHook1
import HandS.HeadHook2
import HandS.More
import HandS.ExcOwn
import HandS.ExcIs
import HandS.TryOnly
import HandS.WordsExc
import HandS.HeadEnd
import HandS.TupSets
import HandS.Deep
import KE.LtData
import HandS.Zip
import KE.KDictPairs
import HandS.SetFor
import HandS.Strs
import PyProof.Rows.StrFirst
import HandS.Dict
import HandS.List
import PyProof.ReprRoads
import PyProof.StrLawsRepr
import PyProof.ReprLen
import HandS.DeepEq
import HandS.StrMore
import KE.KIntText
import KE.IntTextLaws
import PySem.Challenge.RW_nestmend_k11_outlines_of_none
import HandS.Head0
import HandS.Head1
import HandS.Head2
set_option Elab.async false
set_option linter.all false
set_option maxRecDepth 100000
set_option maxHeartbeats 4000000
namespace Ly
open PySem PySem.Spec PyProof.Rows L2 SX

/-- a text by its codes -/
abbrev Tx (l : List Nat) : V := V.str (S l)
theorem Tx_inj {a b : List Nat} : Tx a = Tx b ↔ a = b := ⟨fun h => S_inj (V.str.inj h), fun h => by rw [h]⟩
def OPN : List Nat := [40, 60, 91, 123]
def CLO : List Nat := [41, 62, 93, 125]
def BRK : List Nat := [40, 41, 60, 62, 91, 93, 123, 125]
def LET : List Nat := [97, 98, 99, 100, 101, 102, 103, 104, 105, 106, 107, 108, 109, 110, 111, 112, 113, 114, 115, 116, 117, 118, 119, 120, 121, 122]

/-! ### rules -/
section
variable {X : Cx} {k j : Nat} {x : Str} {sp : Sp} {p pos : Pos} {e : Expr} {es : List Expr} {t : TA} {ta tb : TE}
def tOwn (sp : Sp) (t : TA) : TE := fun σ H Q => t σ H fun vs H1 => sp vs H1 Q C8.E0
theorem pe_own (c : C8.Cal X.prog X.w X.K X.mg X.base k x sp []) (hr : Room j X.A) (hk : k ≤ j) (hg : Gl X x) (ha : PA X (e :: es) t)
    (hdb : (x == ("__debug__" : Str)) = false := by decide) (he : starEach (e :: es) X.env = (false, eval e X.env) :: starEach es X.env := by rfl) (hpl : (backTo pos (starEach es X.env)).any (·.1) = false := by rfl) :
    PE X (.Call (.Name x p) (e :: es) [] pos) (tOwn sp t) := by
  have h := C8.pe_c (p := p) c hr hk hg ha hdb he hpl
  have e : tCall sp [] C8.E0 t = tOwn sp t := by
    funext σ H Q
    show (t σ H fun vs H1 => sp (vs ++ []) H1 Q C8.E0) = _
    simp only [List.append_nil]
    rfl
  rw [← e]
  exact h
theorem pe_strS {z : Str} {jj : Nat} {l : List Nat} (h : z = S l) : PE X (.Constant (.str z) jj pos) (tC (Tx l)) := by
  subst h
  exact pe_str
/-- operators by names -/
def rAddT : R2 := fun x y H Q => ∃ a b : List Nat, x = Tx a ∧ y = Tx b ∧ a.length + b.length ≤ 100000 ∧ Q (Tx (a ++ b)) H
theorem op_addT : OpR X (binaryOp .Add) rAddT := fun pins s σ H x y v u Q I rx ry h => by
  obtain ⟨a, b, rfl, rfl, hl, q⟩ := h
  refine op_add_str pins s σ H _ _ v u Q I rx ry ⟨_, _, rfl, rfl, ?_, ?_⟩
  · rw [S_len, S_len]
    exact Nat.le_trans hl (by decide)
  · rw [S_cat]
    exact q
def rInT (neg : Bool) : R2 := fun x y H Q => ∃ (c : Nat) (l : List Nat), x = Tx [c] ∧ y = Tx l ∧ Q (.bl (if neg then !decide (c ∈ l) else decide (c ∈ l))) H
theorem op_inT : OpR X (compareOp .In) (rInT false) := fun pins s σ H x y v u Q I rx ry h => by
  obtain ⟨c, l, rfl, rfl, q⟩ := h
  exact op_in_sign pins s σ H _ _ v u Q I rx ry ⟨c, S l, rfl, rfl, q⟩
theorem op_notInT : OpR X (compareOp .NotIn) (rInT true) := fun pins s σ H x y v u Q I rx ry h => by
  obtain ⟨c, l, rfl, rfl, q⟩ := h
  exact op_notIn_sign pins s σ H _ _ v u Q I rx ry ⟨c, S l, rfl, rfl, q⟩
def rIxT1 : R2 := fun x y H Q => ∃ (l : List Nat) (i : Int) (c : Nat), x = Tx l ∧ y = .int i ∧ l.length ≤ 100000 ∧ atI l i = some c ∧ Q (Tx [c]) H
theorem ix_txt : IxR X rIxT1 := fun value slice pins s σ H x y v u Q I rx ry h hs => by
  obtain ⟨l, i, c, rfl, rfl, hl, h1, q⟩ := h
  refine ix_str value slice pins s σ H _ _ v u Q I rx ry ⟨S l, i, c, rfl, rfl, ?_, h1, q⟩ hs
  rw [S_len]
  exact Nat.le_trans hl (by decide)
def rLenT : List V → Hp → VK → Prop := fun xs H Q => ∃ l : List Nat, xs = [Tx l] ∧ l.length ≤ 100000 ∧ Q (.int l.length) H
theorem call_lenT : CallR X (.builtin "len") rLenT := fun pins s σ H xs us Q I r h => by
  obtain ⟨l, rfl, hl, q⟩ := h
  refine call_len_str pins s σ H _ us Q I r ⟨S l, rfl, ?_, ?_⟩
  · rw [S_len]
    exact Nat.le_trans hl (by decide)
  · rw [S_len]
    exact q
def rIntB : List V → Hp → VK → Prop := fun xs H Q => ∃ b : Bool, xs = [.bl b] ∧ Q (.int (if b then 1 else 0)) H
theorem call_intB : CallR X (.type "int") rIntB := fun pins s σ H xs us Q I r h => by
  obtain ⟨b, rfl, q⟩ := h
  exact call_int1 pins s σ H _ us Q I r (.inr ⟨b, rfl, q⟩)
def rLenL (K : PySem.W.Frag) : List V → Hp → VK → Prop := fun xs H Q => ∃ p ys, xs = [.ref p] ∧ (SqL K H p ys ∨ SqT K H p ys) ∧ Q (.int ys.length) H
theorem call_lenL : CallR X (.builtin "len") (rLenL X.K) := call_len_seq
def rFindT : V → List V → Hp → VK → Prop := fun x xs H Q => ∃ a b : List Nat, x = Tx a ∧ xs = [Tx b] ∧ Q (.int (Txt.find (S a) (S b))) H
def rSlTx : V → Option Int → Option Int → Hp → VK → Prop := fun x lo hi H Q => ∃ l : List Nat, x = Tx l ∧ l.length ≤ 100000 ∧ Q (.str (Txt.slice (S l) lo hi)) H
theorem sl_tx : SlR X rSlTx := by
  intro pins s σ H x v vl vu lo hi sl Q I rx hs pl pu h
  obtain ⟨l, hx, hz, q⟩ := h
  refine C8.sl_txt pins s σ H x v vl vu lo hi sl Q I rx hs pl pu ⟨S l, hx, ?_, q⟩
  rw [S_len]
  exact Nat.le_trans hz (by decide)
end

/-! ### heaps -/
def But (p : Addr) (H H' : Hp) : Prop := ∀ b o, b ≠ p → H b = some o → H' b = some o
section
variable {H H' H1 H2 : Hp} {a b p : Addr} {o u : HO}
theorem Same.new (h : H p = none) : Same H (upd H p u) := fun b x e => by
  rw [upd_ne (ne_of_none e h)]
  exact e
theorem But.refl : But p H H := fun _ _ _ h => h
theorem But.set : But p H (upd H p u) := fun b x n e => by
  rw [upd_ne n]
  exact e
theorem But.trans (x : But p H H1) (y : But p H1 H2) : But p H H2 := fun b o n h => y b o n (x b o n h)
theorem But.same (x : But p H H1) (y : Same H1 H2) : But p H H2 := fun b o n h => y b o (x b o n h)
theorem Same.but (x : Same H H1) (y : But p H1 H2) : But p H H2 := fun b o n h => y b o n (x b o h)
theorem Same.toBut (x : Same H H1) : But p H H1 := fun b o _ h => x b o h
/-- p is new since H -/
theorem Same.but0 (x : Same H H1) (y : But p H1 H2) (n : H p = none) : Same H H2 := fun b o h => y b o (ne_of_none h n) (x b o h)
theorem But.free (x : But p H H1) (n : a ≠ p) (h : H1 a = none) : H a = none := by
  cases q : H a with
  | none => rfl
  | some o =>
    rw [x a o n q] at h
    cases h
theorem But.but0 {q : Addr} (x : But p H H1) (y : But q H1 H2) (n : H q = none) : But p H H2 := fun b o m h => y b o (ne_of_none h n) (x b o m h)
theorem Same.get (s : Same H H1) (h : H a = some o) : H1 a = some o := s a o h
theorem But.get (s : But p H H1) (n : a ≠ p) (h : H a = some o) : H1 a = some o := s a o n h
theorem ne_new (n : H b = none) (h : H a = some o) : a ≠ b := ne_of_none h n
theorem Same.fr (n : H1 a = none) (x : Same H H1) : H a = none := x.free n
theorem But.fr (n : H1 a = none) (x : But p H H1) (m : a ≠ p) : H a = none := x.free m n
theorem Same.tr (y : Same H1 H2) (x : Same H H1) : Same H H2 := x.trans y
theorem Same.b0 (y : But p H1 H2) (x : Same H H1) (n : H p = none) : Same H H2 := Same.but0 x y n
theorem But.sa (y : Same H1 H2) (x : But p H H1) : But p H H2 := But.same x y
theorem But.tr (y : But p H1 H2) (x : But p H H1) : But p H H2 := x.trans y
theorem But.b0 {q : Addr} (y : But q H1 H2) (x : But p H H1) (n : H q = none) : But p H H2 := But.but0 x y n
theorem sq_of {K : PySem.W.Frag} {xs : List V} (h : H a = some (.lst xs)) : SqL K H a xs := .inl (.inl h)
theorem st_of {K : PySem.W.Frag} {xs : List V} (h : H a = some (.tup xs)) : SqT K H a xs := .inl (.inl h)
theorem But.sq {K : PySem.W.Frag} {xs : List V} (x : But p H H1) (n : a ≠ p) (h : SqL K H a xs) : SqL K H1 a xs := by
  rcases h with (h | ⟨o, h⟩) | h
  · exact .inl (.inl (x _ _ n h))
  · exact .inl (.inr ⟨o, x _ _ n h⟩)
  · exact .inr h
end

/-! ### readings, step by step -/
theorem cx_K {CX : CXT} {P : Program} {w : World} {K : PySem.W.Frag} {mg : Str → Option Value} {base : Heap} {N : List Str} {q : Str} {sc : Scope} {f : Addr} {cd : Value} {A : Around} {outer : List Env} {s : Shared} {H : Hp} {E : XK} : (cxOf CX P w K mg base N q sc f cd A outer s H E).K = K := rfl
section
variable {K : PySem.W.Frag} {σ : L2.St} {H : Hp} {Q : VK} {R : Hp → Prop} {i j : Int} {n : Nat} {v : V} {a p : Addr} {l m : List Nat} {xs ys : List V}
theorem g_var (h : σ[n]? = some (some v)) (q : Q v H) : tVar n σ H Q := ⟨v, h, q⟩
theorem g_I0 {g : Int → Int → V} (q : Q (g i j) H) : rI0 g (.int i) (.int j) H Q := ⟨i, j, rfl, rfl, q⟩
theorem g_I {C : Int → Int → Prop} {g : Int → Int → V} (c : C i j) (q : Q (g i j) H) : rI C g (.int i) (.int j) H Q := ⟨i, j, rfl, rfl, c, q⟩
theorem g_U {g : Int → V} (q : Q (g i) H) : rU g (.int i) H Q := ⟨i, rfl, q⟩
theorem g_ipI {g : Int → Int → Int} (q : Q (.int (g i j)) H) : ipI g (.int i) (.int j) H Q := ⟨i, j, rfl, rfl, q⟩
theorem g_addT (h : l.length + m.length ≤ 100000) (q : Q (Tx (l ++ m)) H) : rAddT (Tx l) (Tx m) H Q := ⟨l, m, rfl, rfl, h, q⟩
theorem g_inT {c : Nat} (q : Q (.bl (decide (c ∈ l))) H) : rInT false (Tx [c]) (Tx l) H Q := ⟨c, l, rfl, rfl, q⟩
theorem g_ninT {c : Nat} (q : Q (.bl (!decide (c ∈ l))) H) : rInT true (Tx [c]) (Tx l) H Q := ⟨c, l, rfl, rfl, q⟩
theorem g_ixT {c : Nat} (h : l.length ≤ 100000) (h1 : atI l i = some c) (q : Q (Tx [c]) H) : rIxT1 (Tx l) (.int i) H Q := ⟨l, i, c, rfl, rfl, h, h1, q⟩
theorem g_ixL (h : SqL K H p xs) (h1 : atI xs i = some v) (q : Q v H) : rIxL K (.ref p) (.int i) H Q := ⟨p, xs, i, v, rfl, rfl, h, h1, q⟩
theorem g_ixU (h : SqT K H p xs) (h1 : atI xs i = some v) (q : Q v H) : rIxT K (.ref p) (.int i) H Q := ⟨p, xs, i, v, rfl, rfl, h, h1, q⟩
theorem g_lenT (h : l.length ≤ 100000) (q : Q (.int l.length) H) : rLenT [Tx l] H Q := ⟨l, rfl, h, q⟩
theorem g_lenL (h : SqL K H p xs) (q : Q (.int xs.length) H) : rLenL K [.ref p] H Q := ⟨p, xs, rfl, .inl h, q⟩
theorem g_lenU (h : SqT K H p xs) (q : Q (.int xs.length) H) : rLenL K [.ref p] H Q := ⟨p, xs, rfl, .inr h, q⟩
theorem g_findT1 (q : Q (.int (Txt.find (S l) (S m))) H) : rFindT (Tx l) [Tx m] H Q := ⟨l, m, rfl, rfl, q⟩
theorem g_str {A : Prop} (q : A) : (∃ z, Tx l = .str z) ∧ A := ⟨⟨_, rfl⟩, q⟩
theorem g_intB {b : Bool} (q : Q (.int (if b then 1 else 0)) H) : rIntB [.bl b] H Q := ⟨b, rfl, q⟩
theorem g_eq {x y : V} (h : scal x y = true) (q : Q (.bl (decide (x = y))) H) : rEq x y H Q := ⟨h, q⟩
theorem g_ne {x y : V} (h : scal x y = true) (q : Q (.bl (!decide (x = y))) H) : rNe x y H Q := ⟨h, q⟩
theorem g_tyL (h : SqL K H p xs) : tyV K "list" (.ref p) H := .inl ⟨rfl, _, h⟩
/-! new objects, changed ones -/
def rLstN (xs : List V) (H : Hp) (Q : VK) : Prop := xs.length ≤ sizeLine ∧ ∀ p, H p = none → Q (.ref p) (upd H p (.lst xs))
def rTupN (xs : List V) (H : Hp) (Q : VK) : Prop := xs.length ≤ sizeLine ∧ ∀ p, H p = none → Q (.ref p) (upd H p (.tup xs))
def rRevN (K : PySem.W.Frag) (x : V) (H : Hp) (Q : VK) : Prop := ∃ a xs, x = .ref a ∧ SqL K H a xs ∧ ∀ p, H p = none → Q (.ref p) (upd H p (.lst xs.reverse))
theorem tLst_eq {t : TA} : tLst t σ H Q = t σ H fun xs H1 => rLstN xs H1 Q := rfl
theorem tTup_eq {t : TA} : tTup t σ H Q = t σ H fun xs H1 => rTupN xs H1 Q := rfl
theorem tRevL_eq {t : TE} : tRevL K t σ H Q = t σ H fun x H1 => rRevN K x H1 Q := rfl
def rPart (x : V) (H : Hp) (Q : Option Int → Hp → Prop) : Prop := ∃ i, x = .int i ∧ Q (some i) H
theorem tPart_eq {t : TE} {Q : Option Int → Hp → Prop} : tPart t σ H Q = t σ H fun x H1 => rPart x H1 Q := rfl
theorem g_part {Q : Option Int → Hp → Prop} (q : Q (some i) H) : rPart (.int i) H Q := ⟨i, rfl, q⟩
theorem g_lst (h : xs.length ≤ 100000) (q : ∀ p H1, H p = none → Same H H1 → H1 p = some (.lst xs) → Q (.ref p) H1) : rLstN xs H Q :=
  ⟨Nat.le_trans h (by decide), fun p np => q p _ np (Same.new np) upd_same⟩
theorem g_tup (h : xs.length ≤ 100000) (q : ∀ p H1, H p = none → Same H H1 → H1 p = some (.tup xs) → Q (.ref p) H1) : rTupN xs H Q :=
  ⟨Nat.le_trans h (by decide), fun p np => q p _ np (Same.new np) upd_same⟩
theorem g_new {o : HO} (q : ∀ p H1, H p = none → Same H H1 → H1 p = some o → Q (.ref p) H1) : ∀ p, H p = none → Q (.ref p) (upd H p o) := fun p np => q p _ np (Same.new np) upd_same
theorem g_setL (h : H p = some (.lst xs)) (h1 : ixN xs.length i = some n) (q : ∀ H1, But p H H1 → H1 p = some (.lst (xs.set n v)) → R H1) : rSetL (.ref p) (.int i) v H R := ⟨p, xs, i, n, rfl, rfl, h, h1, q _ But.set upd_same⟩
theorem g_append1 (h : H p = some (.lst xs)) (hl : xs.length < 100000) (q : ∀ H1, But p H H1 → H1 p = some (.lst (xs ++ [v])) → Q .non H1) : rAppend (.ref p) [v] H Q :=
  ⟨p, xs, v, rfl, rfl, h, Nat.lt_of_lt_of_le hl (by decide), q _ But.set upd_same⟩
theorem g_pop (h : H p = some (.lst (xs ++ [v]))) (q : ∀ H1, But p H H1 → H1 p = some (.lst xs) → Q v H1) : tyV K "list" (.ref p) H ∧ rPop (.ref p) [] H Q := by
  refine ⟨g_tyL (sq_of h), p, xs ++ [v], v, rfl, rfl, h, ?_, ?_⟩
  · simp
  · rw [List.dropLast_concat]
    exact q _ But.set upd_same
theorem g_slL {lo hi : Option Int} (h : SqL K H p xs) (q : ∀ p H1, H p = none → Same H H1 → H1 p = some (.lst (cutV xs lo hi)) → Q (.ref p) H1) : rSlL K (.ref p) lo hi H Q := ⟨p, xs, rfl, h, g_new q⟩
theorem g_revL (h : SqL K H p xs) (q : ∀ p H1, H p = none → Same H H1 → H1 p = some (.lst xs.reverse) → Q (.ref p) H1) : rRevN K (.ref p) H Q := ⟨p, xs, rfl, h, g_new q⟩
theorem g_cat (h : H a = some (.lst xs)) (h2 : H p = some (.lst ys)) (hl : xs.length + ys.length ≤ 100000) (q : ∀ p H1, H p = none → Same H H1 → H1 p = some (.lst (xs ++ ys)) → Q (.ref p) H1) : rCat (.ref a) (.ref p) H Q := ⟨a, p, xs, ys, rfl, rfl, h, h2, Nat.le_trans hl (by decide), g_new q⟩
theorem g_slTo (h : l.length ≤ 100000) (hi : 0 ≤ i) (q : Q (Tx (l.take i.toNat)) H) : rSlTx (Tx l) none (some i) H Q := ⟨l, rfl, h, by rw [slice_to hi]; exact q⟩
theorem g_slFrom (h : l.length ≤ 100000) (hi : 0 ≤ i) (q : Q (Tx (l.drop i.toNat)) H) : rSlTx (Tx l) (some i) none H Q := ⟨l, rfl, h, by rw [slice_from hi]; exact q⟩
/-! tests -/
theorem g_test {c : Prop} [Decidable c] {A B : Prop} (h1 : c → A) (h2 : ¬ c → B) : ∃ k, V.bl (decide c) = V.bl k ∧ if k = true then A else B := by
  refine ⟨_, rfl, ?_⟩
  by_cases h : c
  · rw [decide_eq_true h, if_pos rfl]
    exact h1 h
  · rw [decide_eq_false h, if_neg Bool.false_ne_true]
    exact h2 h
theorem g_testN {c : Prop} [Decidable c] {A B : Prop} (h1 : ¬ c → A) (h2 : c → B) : ∃ k, V.bl (!decide c) = V.bl k ∧ if k = true then A else B := by
  refine ⟨_, rfl, ?_⟩
  by_cases h : c
  · rw [decide_eq_true h]
    exact h2 h
  · rw [decide_eq_false h]
    exact h1 h
theorem g_testB {b : Bool} {A B : Prop} (h1 : b = true → A) (h2 : b = false → B) : ∃ k, V.bl b = V.bl k ∧ if k = true then A else B := by
  refine ⟨_, rfl, ?_⟩
  cases b with
  | true => exact h1 rfl
  | false => exact h2 rfl
end

/-! ### loops -/
def ForR (J : It) (g : TG) (tb : TS) (D : Ends) (σ : L2.St) (H : Hp) : Prop := ∃ W : Nat → Nat → L2.St → Hp → Prop, (∃ m, W 0 m σ H) ∧ ∀ i m σ H, W i m σ H →
  (J.stop i H ∧ D.nx σ H) ∨ (J.go i H ∧ ∃ N : L2.St → Hp → Prop, (∀ σ' H', N σ' H' → ∃ m', m' < m ∧ W (i + 1) m' σ' H') ∧ ∀ x H', J.yld i H x H' → g x σ H' fun σ2 H2 => tb { D with nx := N, ct := N, bk := D.nx } σ2 H2)
theorem tFor_eq {wi : TI} {g : TG} {tb : TS} {D : Ends} {σ : L2.St} {H : Hp} : tFor wi g tb D σ H = wi σ H fun J H1 => ForR J g tb D σ H1 := rfl
def LcR (J : It) (g : TG) (tt : TT) (te : TE) (vs : List Nat) (σ : L2.St) (H1 : Hp) (Q : VK) : Prop := ∀ D, H1 D = none → ∃ W : Nat → Nat → Hp → Prop, (∃ m, W 0 m (upd H1 D (.lst []))) ∧ ∀ i m H, W i m H →
  (J.stop i H ∧ Q (.ref D) H) ∨ (J.go i H ∧ ∃ Nx : Hp → Prop, (∀ H', Nx H' → ∃ m', m' < m ∧ W (i + 1) m' H') ∧ ∀ x H', J.yld i H x H' → g x (wipe σ vs) H' fun σ2 H2 => wipe σ2 vs = wipe σ vs ∧ tt σ2 H2 fun b H3 =>
    if b = true then te σ2 H3 fun y H4 => ∃ acc, H4 D = some (.lst acc) ∧ acc.length < sizeLine ∧ Nx (upd H4 D (.lst (acc ++ [y]))) else Nx H3)
theorem tLc_eq {wi : TI} {g : TG} {tt : TT} {te : TE} {vs : List Nat} {σ : L2.St} {H : Hp} {Q : VK} : tLc wi g tt te vs σ H Q = wi σ H fun J H1 => LcR J g tt te vs σ H1 Q := rfl
section
variable {K : PySem.W.Frag} {σ : L2.St} {H : Hp} {g : TG} {tb : TS} {D : Ends} {l : List Nat} {xs : List V} {a : Addr} {tt : TT} {te : TE} {vs : List Nat} {Q : VK} {n : Nat} {lo : Int}
/-- for c in text, by what is gone through -/
theorem for_txt (Pv : List Nat → L2.St → Hp → Prop) (h0 : Pv [] σ H)
    (hs : ∀ pre c post σ H, l = pre ++ c :: post → Pv pre σ H → g (Tx [c]) σ H fun σ2 H2 => tb { D with nx := Pv (pre ++ [c]), ct := Pv (pre ++ [c]), bk := D.nx } σ2 H2) (hd : ∀ σ H, Pv l σ H → D.nx σ H) : ForR (Its (S l)) g tb D σ H := by
  refine ⟨fun i m σ H => m = l.length - i ∧ i ≤ l.length ∧ Pv (l.take i) σ H, ⟨l.length, by simp, Nat.zero_le _, by simpa using h0⟩, ?_⟩
  rintro i m σ H ⟨rfl, hi, p⟩
  have sz : (S l).cps.size = l.length := by simp
  by_cases hlt : i < l.length
  · have e : l.take (i + 1) = l.take i ++ [l[i]] := by rw [List.take_succ_eq_append_getElem hlt]
    have e2 : l = l.take i ++ l[i] :: l.drop (i + 1) := by rw [← List.drop_eq_getElem_cons hlt, List.take_append_drop]
    refine .inr ⟨by show i < (S l).cps.size; rw [sz]; exact hlt, Pv (l.take (i + 1)), fun σ' H' p' => ⟨l.length - (i + 1), by omega, rfl, hlt, p'⟩, fun x H' y => ?_⟩
    obtain ⟨e1, c, hc, rfl⟩ := y
    subst e1
    have ec : c = l[i] := by
      have : (S l).cps[i]? = some l[i] := by simp [hlt]
      rw [this] at hc
      exact (Option.some.inj hc).symm
    subst ec
    rw [e]
    exact hs (l.take i) l[i] (l.drop (i + 1)) σ _ e2 p
  · have e : i = l.length := by omega
    subst e
    rw [List.take_length] at p
    exact .inl ⟨by show (S l).cps.size ≤ l.length; rw [sz]; exact Nat.le_refl _, hd σ H p⟩
theorem cut_at {α : Type} {xs : List α} {i : Nat} {x : α} (hx : xs[i]? = some x) : xs.take (i + 1) = xs.take i ++ [x] ∧ xs = xs.take i ++ x :: xs.drop (i + 1) := by
  obtain ⟨hlt, ex⟩ := List.getElem?_eq_some_iff.mp hx
  subst ex
  exact ⟨by rw [List.take_succ_eq_append_getElem hlt], by rw [← List.drop_eq_getElem_cons hlt, List.take_append_drop]⟩
/-- for x in list, by what is gone through; the list stays -/
theorem for_lst (xs : List V) (Pv : List V → L2.St → Hp → Prop) (h0 : Pv [] σ H) (hl : ∀ pre post σ H, xs = pre ++ post → Pv pre σ H → SqL K H a xs)
    (hs : ∀ pre x post σ H, xs = pre ++ x :: post → Pv pre σ H → g x σ H fun σ2 H2 => tb { D with nx := Pv (pre ++ [x]), ct := Pv (pre ++ [x]), bk := D.nx } σ2 H2) (hd : ∀ σ H, Pv xs σ H → D.nx σ H) : ForR (Itl K a) g tb D σ H := by
  refine for_list (xs := xs) (fun i σ H => Pv (xs.take i) σ H) (by simpa using h0) (fun i σ H _ p => hl _ (xs.drop i) σ H (List.take_append_drop i xs).symm p) (fun i x σ H hx p => ?_) (fun σ H p => hd σ H (by simpa using p))
  obtain ⟨e, e2⟩ := cut_at hx
  have z := hs (xs.take i) x (xs.drop (i + 1)) σ H e2 p
  rw [← e] at z
  exact z
/-- for i, x in enumerate(list), by what is gone through -/
theorem for_enum (xs : List V) (Pv : List V → L2.St → Hp → Prop) (h0 : Pv [] σ H) (hl : ∀ pre post σ H, xs = pre ++ post → Pv pre σ H → SqL K H a xs)
    (hs : ∀ pre x post σ H t H1, xs = pre ++ x :: post → Pv pre σ H → H t = none → Same H H1 → H1 t = some (.tup [.int pre.length, x]) → g (.ref t) σ H1 fun σ2 H2 => tb { D with nx := Pv (pre ++ [x]), ct := Pv (pre ++ [x]), bk := D.nx } σ2 H2) (hd : ∀ σ H, Pv xs σ H → D.nx σ H) : ForR (Ite K a) g tb D σ H := by
  refine for_it (walk_enum (xs := xs)) (fun i σ H => Pv (xs.take i) σ H) (by simpa using h0) (fun i σ H _ p => hl _ (xs.drop i) σ H (List.take_append_drop i xs).symm p) (fun i v σ H H' hi p y => ?_) (fun σ H p => hd σ H (by simpa using p))
  obtain ⟨t, x1, x2, rfl, nt, rfl, e1, e2⟩ := y
  cases e1
  obtain ⟨e, e3⟩ := cut_at e2
  have z := hs (xs.take i) x2 (xs.drop (i + 1)) σ H t _ e3 p nt (Same.new nt) (by
    rw [upd_same, List.length_take, Nat.min_eq_left (Nat.le_of_lt hi)])
  rw [← e] at z
  exact z
/-- for i in range -/
theorem for_rng (Pv : Nat → L2.St → Hp → Prop) (h0 : Pv 0 σ H)
    (hs : ∀ i σ H, i < n → Pv i σ H → g (.int (lo + i)) σ H fun σ2 H2 => tb { D with nx := Pv (i + 1), ct := Pv (i + 1), bk := D.nx } σ2 H2) (hd : ∀ σ H, Pv n σ H → D.nx σ H) : ForR (Itr lo n) g tb D σ H := for_range Pv h0 hs hd
/-- what a comprehension's turn is to reach: y put behind the new list at d -/
def LcPut (d : Addr) (R : Hp → Prop) (y : V) (H : Hp) : Prop := ∃ acc, H d = some (.lst acc) ∧ acc.length < sizeLine ∧ R (upd H d (.lst (acc ++ [y])))
theorem lc_put {d : Addr} {R : Hp → Prop} {y : V} {acc : List V} (h : H d = some (.lst acc)) (hl : acc.length < 100000) (q : ∀ H5, But d H H5 → H5 d = some (.lst (acc ++ [y])) → R H5) : LcPut d R y H := ⟨acc, h, Nat.lt_of_lt_of_le hl (by decide), q _ But.set upd_same⟩
theorem lc_w {J : It} {G : Hp → Prop} {Y : Nat → Hp → V → Hp → Prop} (w : Walk J n G Y)
    (h : ∀ d H1, H d = none → Same H H1 → H1 d = some (.lst []) → ∃ Pv : Nat → Hp → Prop, Pv 0 H1 ∧ (∀ i H, i ≤ n → Pv i H → G H) ∧
      (∀ i x H H', i < n → Pv i H → Y i H x H' → g x (wipe σ vs) H' fun σ2 H2 => wipe σ2 vs = wipe σ vs ∧ tt σ2 H2 fun b H3 => if b = true then te σ2 H3 fun y H4 => LcPut d (Pv (i + 1)) y H4 else Pv (i + 1) H3) ∧ ∀ H, Pv n H → Q (.ref d) H) : LcR J g tt te vs σ H Q := by
  intro d nd
  obtain ⟨Pv, h0, hG, hs, hd⟩ := h d _ nd (Same.new nd) upd_same
  exact lc_it w Pv h0 hG hs hd
theorem lc_rng (h : ∀ d H1, H d = none → Same H H1 → H1 d = some (.lst []) → ∃ Pv : Nat → Hp → Prop, Pv 0 H1 ∧
      (∀ (i : Nat) H, i < n → Pv i H → g (.int (lo + i)) (wipe σ vs) H fun σ2 H2 => wipe σ2 vs = wipe σ vs ∧ tt σ2 H2 fun b H3 => if b = true then te σ2 H3 fun y H4 => LcPut d (Pv (i + 1)) y H4 else Pv (i + 1) H3) ∧ ∀ H, Pv n H → Q (.ref d) H) : LcR (Itr lo n) g tt te vs σ H Q := by
  refine lc_w walk_range fun d H1 nd s e => ?_
  obtain ⟨Pv, h0, hs, hd⟩ := h d H1 nd s e
  refine ⟨Pv, h0, fun _ _ _ _ => trivial, fun i x H H' hi p y => ?_, hd⟩
  obtain ⟨rfl, rfl⟩ := y
  exact hs i _ hi p
theorem lc_lst (xs : List V) (h : ∀ d H1, H d = none → Same H H1 → H1 d = some (.lst []) → ∃ Pv : List V → Hp → Prop, Pv [] H1 ∧ (∀ pre post H, xs = pre ++ post → Pv pre H → SqL K H a xs) ∧
      (∀ pre x post H, xs = pre ++ x :: post → Pv pre H → g x (wipe σ vs) H fun σ2 H2 => wipe σ2 vs = wipe σ vs ∧ tt σ2 H2 fun b H3 => if b = true then te σ2 H3 fun y H4 => LcPut d (Pv (pre ++ [x])) y H4 else Pv (pre ++ [x]) H3) ∧ ∀ H, Pv xs H → Q (.ref d) H) : LcR (Itl K a) g tt te vs σ H Q := by
  refine lc_w (walk_list (xs := xs)) fun d H1 nd s e => ?_
  obtain ⟨Pv, h0, hl, hs, hd⟩ := h d H1 nd s e
  refine ⟨fun i => Pv (xs.take i), by simpa using h0, fun i H _ p => hl _ (xs.drop i) H (List.take_append_drop i xs).symm p, fun i x H H' hi p y => ?_, fun H p => hd H (by simpa using p)⟩
  obtain ⟨rfl, hc⟩ := y
  obtain ⟨e1, e2⟩ := cut_at hc
  have z := hs (xs.take i) x (xs.drop (i + 1)) _ e2 p
  rw [← e1] at z
  exact z
end

/-! ### a def of the text -/
def DefAt (K : PySem.W.Frag) (mg : Str → Option Value) (x : Str) (st : Stmt) (ps : List Str) : Prop := ∃ (f : Addr) (fd : FuncData), FunD K x x (defArgs st) (defBody st) (defScope st) [] [] f fd ∧ mg x = some (.ref f) ∧ Binds K fd ps []
section
variable {P : Program} {w : World} {K : PySem.W.Frag} {mg : Str → Option Value} {base : Heap}
theorem fnD {x : Str} {st : Stmt} {f : Addr} {fd : FuncData} {N ps : List Str} {k : Nat} {sp : Sp} (F : FunD K x x (defArgs st) (defBody st) (defScope st) [] [] f fd) (S : FnScope N ps (defScope st)) (len : ∀ vs H Q E, sp vs H Q E → vs.length = ps.length)
    (hbody : ∀ (cdv : Value) (A : Around) (outer : List Env) (s : Shared) (H : Hp) (vs : List V) (Q : VK) (E : XK), Room k (A.deeper (envOfC x (defScope st) s.heap.objs.size f cdv)) → sp vs H Q E →
      ∃ t, PSs (cxOf C8.CX0 P w K mg base N x (defScope st) f cdv A outer s H E).nox (defBody st) t ∧ t { nx := fun _ H' => Q .non H', rt := Q } (start N vs) H) : FnOk P w K mg base C8.CX0 (k + 1) f fd ps sp := by
  refine F.ok S len fun cdv A outer s H vs Q E hr hsp => ?_
  obtain ⟨t, h, q⟩ := hbody cdv A outer s H vs Q E hr hsp
  exact ⟨t, h.nox, q⟩
theorem calD {x : Str} {st : Stmt} {N ps : List Str} {k : Nat} {sp : Sp} (D : DefAt K mg x st ps) (S : FnScope N ps (defScope st)) (len : ∀ vs H Q E, sp vs H Q E → vs.length = ps.length)
    (hbody : ∀ (f : Addr) (cdv : Value) (A : Around) (outer : List Env) (s : Shared) (H : Hp) (vs : List V) (Q : VK) (E : XK), Room k (A.deeper (envOfC x (defScope st) s.heap.objs.size f cdv)) → sp vs H Q E →
      ∃ t, PSs (cxOf C8.CX0 P w K mg base N x (defScope st) f cdv A outer s H E).nox (defBody st) t ∧ t { nx := fun _ H' => Q .non H', rt := Q } (start N vs) H) : C8.Cal P w K mg base (k + 1) x sp [] := by
  obtain ⟨f, fd, F, hm, b⟩ := D
  exact ⟨f, fd, ps, [], fnD F S len (hbody f), hm, F.kp, b, .nil⟩
end
end Ly

set_option maxHeartbeats 4000000
namespace Ly
open PySem SX
/-! ### signs -/
def isSg (c : Nat) : Prop := c ∈ LET ∨ c ∈ BRK
/-- the number of a bracket's kind -/
def knd (c : Nat) : Nat := if c ∈ OPN then OPN.idxOf c else CLO.idxOf c
/-- the other bracket of a bracket's kind -/
def oth (c : Nat) : Nat := if c ∈ OPN then CLO.getD (OPN.idxOf c) 0 else OPN.getD (CLO.idxOf c) 0
theorem brk_or {c : Nat} : c ∈ BRK ↔ c ∈ OPN ∨ c ∈ CLO := by
  unfold BRK OPN CLO
  simp
  omega
theorem oth_clo : ∀ c ∈ OPN, oth c ∈ CLO := by decide
theorem oth_opn : ∀ c ∈ CLO, oth c ∈ OPN := by decide
theorem oth_brk : ∀ c ∈ BRK, oth c ∈ BRK := by decide
theorem oth_oth : ∀ c ∈ BRK, oth (oth c) = c := by decide
theorem opn_clo : ∀ c ∈ OPN, c ∉ CLO := by decide
theorem atI_of {α : Type} {l : List α} {k : Nat} {c : α} (h : l[k]? = some c) : L2.atI l (k : Int) = some c := L2.atI_nat h

/-! ### clean texts, by a pile of awaited closing brackets -/
def stp (s : Option (List Nat)) (c : Nat) : Option (List Nat) := match s with
  | none => none
  | some st => if c ∈ OPN then some (oth c :: st) else if c ∈ CLO then (match st with
    | d :: r => if d = c then some r else none
    | [] => none) else some st
def run (l : List Nat) : Option (List Nat) := l.foldl stp (some [])
def clean (l : List Nat) : Prop := run l = some []
instance (l : List Nat) : Decidable (clean l) := inferInstanceAs (Decidable (run l = some []))
theorem run_app (a b : List Nat) : run (a ++ b) = b.foldl stp (run a) := by
  unfold run
  rw [List.foldl_append]
theorem run_snoc (a : List Nat) (c : Nat) : run (a ++ [c]) = stp (run a) c := by
  rw [run_app]
  rfl
theorem stp_let {s : Option (List Nat)} {c : Nat} (h1 : c ∉ OPN) (h2 : c ∉ CLO) : stp s c = s := by
  cases s with
  | none => rfl
  | some st => unfold stp; simp only [h1, h2, if_false]
theorem stp_opn {st : List Nat} {c : Nat} (h1 : c ∈ OPN) : stp (some st) c = some (oth c :: st) := by
  unfold stp
  simp only [h1, if_true]
theorem stp_clo {st : List Nat} {c : Nat} (h2 : c ∈ CLO) : stp (some (c :: st)) c = some st := by
  have h1 : c ∉ OPN := fun h => opn_clo c h h2
  unfold stp
  simp only [h1, h2, if_true, if_false]
theorem let_opn : ∀ c ∈ LET, c ∉ OPN := by decide
theorem let_clo : ∀ c ∈ LET, c ∉ CLO := by decide
theorem sg_lt {c : Nat} (h : isSg c) : c < 1114112 := by
  have a : ∀ c ∈ LET, c < 1114112 := by decide
  have b : ∀ c ∈ BRK, c < 1114112 := by decide
  exact h.elim (a c) (b c)
/-- what is waited for, closed -/
theorem fold_clo : ∀ st : List Nat, (∀ c ∈ st, c ∈ CLO) → st.foldl stp (some st) = some []
  | [], _ => rfl
  | c :: st, h => by
    rw [List.foldl_cons, stp_clo (h c (List.mem_cons_self ..))]
    exact fold_clo st fun d hd => h d (List.mem_cons_of_mem _ hd)
theorem opn_at {z : Nat} (h : z < 4) : ∃ c, OPN[z]? = some c ∧ CLO[z]? = some (oth c) ∧ c ∈ OPN ∧ oth c ∈ CLO := by
  have e : z = 0 ∨ z = 1 ∨ z = 2 ∨ z = 3 := by omega
  rcases e with rfl | rfl | rfl | rfl
  · exact ⟨40, rfl, rfl, by decide, by decide⟩
  · exact ⟨60, rfl, rfl, by decide, by decide⟩
  · exact ⟨91, rfl, rfl, by decide, by decide⟩
  · exact ⟨123, rfl, rfl, by decide, by decide⟩
theorem ixN_nat {n j : Nat} (h : j < n) : L2.ixN n (j : Int) = some j := by
  unfold L2.ixN
  rw [if_pos (by omega), if_pos (by omega), Int.toNat_natCast]
end Ly

set_option maxHeartbeats 4000000
namespace Ly
open PySem PySem.Spec PyProof.Rows L2 SX

/-! ### list(text) -/
def sgV (l : List Nat) : List V := l.map fun c => Tx [c]
section
variable {X : Cx}
def rListT : List V → Hp → VK → Prop := fun xs H Q => ∃ l : List Nat, xs = [Tx l] ∧ l.length ≤ 100000 ∧ ∀ p, H p = none → Q (.ref p) (upd H p (.lst (sgV l)))
theorem vals_signs {l : List Nat} {acc : Array Value} (h : ItemsOf (SignAt (S l)) acc (S l).cps.size) : Vals (sgV l) acc.toList := by
  have hsz : acc.size = l.length := by rw [h.1]; simp
  have key : ∀ (l2 : List Nat) (us : List Value), us.length = l2.length → (∀ j, j < l2.length → ∃ c u, l2[j]? = some c ∧ us[j]? = some (.str ⟨#[c]⟩ u)) → Vals (sgV l2) us := by
    intro l2
    induction l2 with
    | nil =>
      intro us hl _
      cases us with
      | nil => exact .nil
      | cons a b => simp at hl
    | cons c l2 ih =>
      intro us hl hj
      cases us with
      | nil => simp at hl
      | cons a b =>
        obtain ⟨c', u, e1, e2⟩ := hj 0 (by simp)
        simp at e1 e2
        subst e1 e2
        refine .cons ⟨u, rfl⟩ (ih b (by simpa using hl) fun j hlt => ?_)
        obtain ⟨c2, u2, e3, e4⟩ := hj (j + 1) (by simp; omega)
        exact ⟨c2, u2, by simpa using e3, by simpa using e4⟩
  refine key l acc.toList (by simpa using hsz) fun j hj => ?_
  have hj2 : j < acc.size := by omega
  obtain ⟨c, u, e1, e2⟩ := h.2 j acc[j] (by simp [hj2])
  refine ⟨c, u, by simpa using e1, ?_⟩
  rw [← e2]
  simp [hj2]
theorem call_listT (hc : X.calm = true) : CallR X (.type "list") rListT := by
  intro pins s σ H xs us Q I r h
  obtain ⟨l, rfl, hl, q⟩ := h
  obtain ⟨u, rfl, t, rfl⟩ := vals1 r
  have hs : (S l).cps.size ≤ sizeLine := by
    have e : (S l).cps.size = l.length := by simp
    rw [e]
    exact Nat.le_trans hl (by decide)
  refine call_list_str (I.ok.hd hc) (S l) t (fun h' tk acc c' kp e it => ?_) hs
  refine ⟨.ref s.heap.objs.size, _, I.laid (t' := tk) kp (Nat.le_refl _) (show ObjOk X.prog X.w _ h' _ (.lst (sgV l)) from ⟨?_, acc.toList, c', vals_signs it, by simpa using e⟩), rfl, q _ (I.hok.fresh (Nat.le_refl _))⟩
  unfold sgV
  rw [List.length_map]
  exact Nat.le_trans hl (by decide)

/-! ### joins of texts -/
def rJoinT (K : PySem.W.Frag) : V → List V → Hp → VK → Prop := fun x xs H Q => ∃ (a : List Nat) (p : Addr) (ps : List (List Nat)), x = Tx a ∧ xs = [.ref p] ∧ SqL K H p (ps.map Tx) ∧ (ps.map (·.length)).sum + ps.length * a.length ≤ 100000 ∧ Q (Tx (TL.joinL a ps)) H
theorem mt_joinT : MtR X "str.join" (rJoinT X.K) := fun pins s σ H x xs v us Q I rx rs h => by
  obtain ⟨a, p, ps, h1, h2, h3, h4, q⟩ := h
  refine mt_join pins s σ H x xs v us Q I rx rs ⟨S a, p, ps.map S, h1, h2, .inl ?_, ?_, ?_⟩
  · rw [List.map_map]
    exact h3
  · rw [lens, List.length_map, S_len]
    exact Nat.le_trans h4 (by decide)
  · rw [join_S]
    exact q

/-! ### text * n -/
def repT (n : Nat) (l : List Nat) : List Nat := (List.replicate n l).flatten
theorem fold_cat (n : Nat) (x : Array Nat) : ∀ acc : Array Nat, ((List.replicate n x).foldl (· ++ ·) acc).toList = acc.toList ++ repT n x.toList := by
  induction n with
  | zero => intro acc; simp [repT]
  | succ n ih =>
    intro acc
    rw [List.replicate_succ, List.foldl_cons, ih]
    simp [repT, List.replicate_succ]
theorem mul_S (l : List Nat) (n : Nat) : Txt.mul (S l) (n : Int) = S (repT n l) := by
  refine TL.ext_tl ?_
  show (Txt.mul (S l) (n : Int)).cps.toList = repT n l
  unfold Txt.mul
  by_cases h1 : (n : Int) < 1
  · rw [if_pos h1]
    have : n = 0 := by omega
    subst this
    rfl
  · rw [if_neg h1]
    by_cases h2 : ((n : Int) == 1 || (S l).length == 0) = true
    · rw [if_pos h2]
      rw [Bool.or_eq_true] at h2
      rcases h2 with h2 | h2
      · have : n = 1 := by
          have := eq_of_beq h2
          omega
        subst this
        simp [repT]
      · have : l = [] := by
          have := eq_of_beq h2
          rw [S_len] at this
          exact List.eq_nil_of_length_eq_zero this
        subst this
        simp [repT]
    · rw [if_neg h2]
      show ((List.replicate (n : Int).toNat (S l).cps).foldl (· ++ ·) #[]).toList = _
      rw [Int.toNat_natCast, fold_cat]
      rfl
def rMulT : R2 := fun x y H Q => ∃ (l : List Nat) (n : Nat), x = Tx l ∧ y = .int (n : Int) ∧ n ≤ 100000 ∧ n * l.length ≤ 100000 ∧ Q (Tx (repT n l)) H
theorem op_mulT : OpR X (binaryOp .Mult) rMulT := fun pins s σ H x y v u Q I rx ry h => by
  obtain ⟨l, n, rfl, rfl, hn, hl, q⟩ := h
  obtain ⟨t, rfl⟩ := rx
  obtain ⟨t', rfl⟩ := ry
  refine SB.mul ⟨?_, ?_, ?_⟩ fun t'' k => ⟨Tx (repT n l), H, I.tok _, ⟨t'', by rw [mul_S]⟩, q⟩
  · have e1 : decide ((n : Int) < -(2 ^ 63 : Int)) = false := decide_eq_false (by omega)
    have e2 : decide ((n : Int) ≥ 2 ^ 63) = false := decide_eq_false (by omega)
    rw [e1, e2]
    rfl
  · intro h1 _
    rw [S_len]
    have h2 : (0 : Int) < n := by omega
    have h3 : (l.length : Int) * n ≤ 100000 := by
      have : ((n * l.length : Nat) : Int) ≤ 100000 := by omega
      rw [Int.natCast_mul, Int.mul_comm] at this
      exact this
    have h4 : (l.length : Int) ≤ (2 ^ 63 - 1) / n := by
      rw [Int.le_ediv_iff_mul_le h2]
      omega
    omega
  · intro _ _
    rw [S_len, Int.toNat_natCast, Nat.mul_comm]
    exact decide_eq_false (Nat.not_lt.mpr (Nat.le_trans hl (by decide)))
end

/-! ### enumerate(text) -/
def IteS (x : Str) : It := ⟨fun i _ => i < x.cps.size, fun i H v H' => ∃ T c, v = .ref T ∧ H T = none ∧ H' = upd H T (.tup [.int (i : Nat), .str ⟨#[c]⟩]) ∧ x.cps[i]? = some c, fun i _ => i = x.cps.size⟩
def iEnumS (ta : TA) : TI := fun σ H R => ta σ H fun vs H1 => ∃ l : List Nat, vs = [Tx l] ∧ R (IteS (S l)) H1
section
variable {K : PySem.W.Frag} {σ : L2.St} {H : Hp} {g : TG} {tb : TS} {D : Ends} {l : List Nat} {xs : List V} {a : Addr}
/-! readings -/
variable {Q : VK} {p : Addr} {m : List Nat} {n : Nat}
theorem g_listT (h : l.length ≤ 100000) (q : ∀ p H1, H p = none → Same H H1 → H1 p = some (.lst (sgV l)) → Q (.ref p) H1) : rListT [Tx l] H Q := ⟨l, rfl, h, g_new q⟩
theorem g_joinT {ps : List (List Nat)} (h : SqL K H p (ps.map Tx)) (hl : (ps.map (·.length)).sum + ps.length * m.length ≤ 100000) (q : Q (Tx (TL.joinL m ps)) H) : rJoinT K (Tx m) [.ref p] H Q := ⟨m, p, ps, rfl, rfl, h, hl, q⟩
theorem g_mulT (h : n ≤ 100000) (h2 : n * l.length ≤ 100000) (q : Q (Tx (repT n l)) H) : rMulT (Tx l) (.int (n : Int)) H Q := ⟨l, n, rfl, rfl, h, h2, q⟩
theorem joinL_nil : ∀ ps : List (List Nat), TL.joinL [] ps = ps.flatten
  | [] => rfl
  | [p] => by simp [TL.joinL]
  | p :: q :: r => by
    show p ++ ([] ++ TL.joinL [] (q :: r)) = _
    rw [joinL_nil (q :: r)]
    simp
/-- ''.join of signs -/
theorem g_join0 (h : SqL K H p (sgV l)) (hl : l.length ≤ 100000) (q : Q (Tx l) H) : rJoinT K (Tx []) [.ref p] H Q := by
  refine g_joinT (ps := l.map fun c => [c]) ?_ ?_ ?_
  · rw [List.map_map]
    exact h
  · rw [List.map_map]
    have : ((fun x : List Nat => x.length) ∘ fun c : Nat => [c]) = fun _ => 1 := rfl
    rw [this]
    have e : ∀ l : List Nat, (l.map fun _ => 1).sum = l.length := by
      intro l
      induction l with
      | nil => rfl
      | cons c l ih => simp [ih]; omega
    rw [e]
    simpa using hl
  · rw [joinL_nil]
    have : ∀ l : List Nat, (l.map fun c => [c]).flatten = l := by
      intro l
      induction l with
      | nil => rfl
      | cons c l ih => simp [ih]
    rw [this]
    exact q
end

/-! ### an if whose test is told once -/
def tIfC (c : TT) (t u : TS) : TS := tIfS c t u
theorem ps_ifC {X : Cx} {pos : Pos} {c : Expr} {a b : List Stmt} {tc : TT} {t u : TS} (hc : PT X c tc) (ha : PSs X a t) (hb : PSs X b u) : PS X (.If c a b pos) (tIfC tc t u) := ps_if hc ha hb
/-- the test c comes out as b and leaves the heap -/
def Tst (c : TT) (σ : L2.St) (H : Hp) (b : Bool) : Prop := ∀ Q : Bool → Hp → Prop, Q b H → c σ H Q
theorem g_ifC {c : TT} {t u : TS} {D : Ends} {σ : L2.St} {H : Hp} {b : Bool} (hA : Tst c σ H b) (h1 : b = true → t D σ H) (h2 : b = false → u D σ H) : tIfC c t u D σ H := by
  refine hA _ ?_
  cases b with
  | true => exact h1 rfl
  | false => exact h2 rfl
/-! ### while -/
section
variable {c : TT} {tb : TS} {D : Ends} {σ : L2.St} {H : Hp}
def WhB (tb : TS) (D : Ends) (W : Nat → L2.St → Hp → Prop) (m : Nat) (σ : L2.St) (H : Hp) : Prop := ∃ N : L2.St → Hp → Prop, (∀ σ' H', N σ' H' → ∃ m', m' < m ∧ W m' σ' H') ∧ tb { D with nx := N, ct := N, bk := D.nx } σ H
theorem g_while (W : Nat → L2.St → Hp → Prop) (m : Nat) (h0 : W m σ H) (hs : ∀ m σ H, W m σ H → c σ H fun b H1 => if b = true then WhB tb D W m σ H1 else D.nx σ H1) : tWhile c tb D σ H := ⟨W, ⟨m, h0⟩, hs⟩
theorem g_whb {W : Nat → L2.St → Hp → Prop} {m : Nat} (q : tb { D with nx := fun σ' H' => ∃ m', m' < m ∧ W m' σ' H', ct := fun σ' H' => ∃ m', m' < m ∧ W m' σ' H', bk := D.nx } σ H) : WhB tb D W m σ H := ⟨_, fun _ _ h => h, q⟩
end
/-! ### data: == and != -/
def txD (l : List Nat) : PyData := .str (S l)
section
variable {K : PySem.W.Frag} {H : Hp} {Q : VK} {p a : Addr} {X : Cx}
theorem dp_txs : ∀ ps : List (List Nat), DpAll K H (ps.map Tx) (ps.map txD)
  | [] => .nil
  | l :: ps => .cons (.str _) (dp_txs ps)
theorem can_tx {l : List Nat} (h : ∀ c ∈ l, c < 1114112) : PyData.canLay0 (txD l) = true := by
  show PyData.strOk (S l) = true
  unfold PyData.strOk
  rw [← Array.all_toList]
  exact List.all_eq_true.mpr fun c hc => decide_eq_true (h c hc)
theorem can_txs : ∀ ps : List (List Nat), (∀ l ∈ ps, ∀ c ∈ l, c < 1114112) → PyData.canLayAll0 (ps.map txD) = true
  | [], _ => rfl
  | l :: ps, h => by
    show (PyData.canLay0 (txD l) && PyData.canLayAll0 (ps.map txD)) = true
    rw [can_tx (h l (List.mem_cons_self ..)), can_txs ps fun m hm => h m (List.mem_cons_of_mem _ hm)]
    rfl
theorem depth_txs : ∀ ps : List (List Nat), PyData.depthAll (ps.map txD) = 0
  | [] => rfl
  | l :: ps => by
    show max 0 (PyData.depthAll (ps.map txD)) = 0
    rw [depth_txs ps]
    rfl
theorem shaped_txs {ps : List (List Nat)} (h : ∀ l ∈ ps, ∀ c ∈ l, c < 1114112) : SeqAt.shaped (.list (ps.map txD)) = true := by
  unfold SeqAt.shaped
  rw [show PyData.canLay0 (.list (ps.map txD)) = PyData.canLayAll0 (ps.map txD) from rfl, can_txs ps h, show PyData.depth (.list (ps.map txD)) = PyData.depthAll (ps.map txD) + 1 from rfl, depth_txs]
  rfl
theorem g_neNilT {ps : List (List Nat)} (h : SqL K H p (ps.map Tx)) (hc : ∀ l ∈ ps, ∀ c ∈ l, c < 1114112) (h2 : SqL K H a []) (q : Q (.bl (!decide (ps = []))) H) : rNeD K (.ref p) (.ref a) H Q := by
  refine ⟨.list (ps.map txD), .list [], .lst h (dp_txs ps), .lst h2 .nil, shaped_txs hc, rfl, ?_⟩
  have e : PyData.eqv (.list (ps.map txD)) (.list []) = decide (ps = []) := by
    cases ps with
    | nil => rfl
    | cons l ps => rfl
  rw [e]
  exact q
theorem sgV_eq (l : List Nat) : sgV l = (l.map fun c => [c]).map Tx := by
  unfold sgV
  rw [List.map_map]
  rfl
/-- a list of signs against [] -/
theorem g_neNilS {l : List Nat} (h : SqL K H p (sgV l)) (hc : ∀ c ∈ l, c < 1114112) (h2 : SqL K H a []) (q : Q (.bl (!decide (l = []))) H) : rNeD K (.ref p) (.ref a) H Q := by
  rw [sgV_eq] at h
  refine g_neNilT h (fun m hm c hcm => ?_) h2 ?_
  · obtain ⟨d, hd, rfl⟩ := List.mem_map.mp hm
    rw [List.mem_singleton] at hcm
    subst hcm
    exact hc _ hd
  · have e : ((l.map fun c => [c]) = []) ↔ l = [] := by simp
    rw [decide_eq_decide.mpr e]
    exact q
end
theorem sgV_snoc (l : List Nat) (c : Nat) : sgV (l ++ [c]) = sgV l ++ [Tx [c]] := by
  unfold sgV
  rw [List.map_append]
  rfl
theorem sgV_rev (l : List Nat) : (sgV l).reverse = sgV l.reverse := by
  unfold sgV
  rw [List.map_reverse]
theorem sgV_len (l : List Nat) : (sgV l).length = l.length := by
  unfold sgV
  rw [List.length_map]

section
variable {K : PySem.W.Frag} {H : Hp} {Q : VK} {p a : Addr} {xs : List V} {v : V} {i : Nat}
theorem g_isi {x : V} {t u : String} {b : Bool} (ty : TyX K H x (.type t)) (h : kitB t u = some b) (q : Q (.bl b) H) : rIsi K [x, .ty u] H Q := ⟨x, .ty u, .type t, .type u, b, rfl, .ty u, ty, kit_ty h, q⟩
theorem ty_str {x : Str} : TyX K H (.str x) (.type "str") := .base (.str x)
theorem ty_int {n : Int} : TyX K H (.int n) (.type "int") := .base (.int n)
theorem ty_bl {b : Bool} : TyX K H (.bl b) (.type "bool") := .base (.bl b)
theorem ty_lst (h : H p = some (.lst xs)) : TyX K H (.ref p) (.type "list") := .base (.lst h)
theorem ty_tup (h : H p = some (.tup xs)) : TyX K H (.ref p) (.type "tuple") := .base (.tup h)
theorem cut_ints (ns : List Int) (lo hi : Option Int) : ∃ ms : List Int, cutV (ns.map V.int) lo hi = ms.map V.int ∧ ms.length ≤ ns.length := by
  unfold cutV
  refine ⟨(ns.drop (HT.sIx (ns.map V.int).length 0 lo)).take (HT.sIx (ns.map V.int).length (ns.map V.int).length hi - HT.sIx (ns.map V.int).length 0 lo), ?_, ?_⟩
  · rw [List.map_take, List.map_drop]
  · rw [List.length_take, List.length_drop]
    omega
end
end Ly

set_option maxHeartbeats 4000000
namespace Ly
open PySem PySem.Spec PyProof.Rows L2 SX
/-! ### zip(text, list) -/
def ItzS (K : PySem.W.Frag) (x : Str) (b : Addr) : It :=
  ⟨fun i H => ∃ (ys : List V) (y : V), i < x.cps.size ∧ SqL K H b ys ∧ ys[i]? = some y,
    fun i H v H' => ∃ T c y, v = .ref T ∧ H T = none ∧ H' = upd H T (.tup [.str ⟨#[c]⟩, y]) ∧ x.cps[i]? = some c ∧ ∀ ys, SqL K H b ys → ys[i]? = some y,
    fun i H => ∃ ys : List V, SqL K H b ys ∧ (i = x.cps.size ∨ i = ys.length) ∧ i ≤ x.cps.size ∧ i ≤ ys.length⟩
def iZipS (K : PySem.W.Frag) (ta : TA) : TI := fun σ H R => ta σ H fun vs H1 => ∃ (l : List Nat) (b : Addr) (ys : List V), vs = [Tx l, .ref b] ∧ SqL K H1 b ys ∧ R (ItzS K (S l) b) H1
/-! ### flat data -/
section
variable {K : PySem.W.Frag} {H : Hp} {Q : VK} {p a : Addr} {xs : List V}
theorem g_rep {n : Nat} (h : H p = some (.lst xs)) (hl : xs.length * n ≤ 100000) (hn : n ≤ 100000) (q : ∀ p H1, H p = none → Same H H1 → H1 p = some (.lst (List.replicate n xs).flatten) → Q (.ref p) H1) : rRep (.ref p) (.int (n : Int)) H Q := by
  refine ⟨p, n, xs, rfl, rfl, h, by omega, by omega, Nat.le_trans (by rw [Int.toNat_natCast]; exact hl) (by decide), ?_⟩
  rw [Int.toNat_natCast]
  exact g_new q
end

/-! ### downward ranges -/
section
variable {σ : L2.St} {H : Hp} {g : TG} {tb : TS} {D : Ends} {n : Nat}
end
/-! ### a promise that nobody asks -/
theorem cal_false {P : Program} {w : World} {K : PySem.W.Frag} {mg : Str → Option Value} {base : Heap} {x : Str} {st : Stmt} {N ps : List Str} {k : Nat} {sp : Sp} (D : DefAt K mg x st ps) (S : FnScope N ps (defScope st)) (hf : ∀ vs H Q E, ¬ sp vs H Q E) : C8.Cal P w K mg base (k + 1) x sp [] :=
  calD D S (fun vs H Q E h => (hf vs H Q E h).elim) (fun _ _ _ _ _ H vs Q E _ h => (hf vs H Q E h).elim)
end Ly

set_option maxHeartbeats 4000000
namespace Ly
/-! ### stretches, partners -/
/-- the signs from a on and below b -/
def seg (l : List Nat) (a b : Nat) : List Nat := (l.take b).drop a
/-- i an opening bracket, j its partner -/
def ptn (l : List Nat) (i j : Nat) : Prop := i < j ∧ ∃ c, l[i]? = some c ∧ c ∈ OPN ∧ l[j]? = some (oth c) ∧ clean (seg l (i + 1) j)
/-! the pile from any begin -/
theorem fold_none : ∀ l : List Nat, l.foldl stp none = none
  | [] => rfl
  | c :: l => by
    rw [List.foldl_cons]
    exact fold_none l
/-- what lies deeper in the pile stays -/
theorem fold_deep : ∀ (l : List Nat) (st r : List Nat) (t : List Nat), l.foldl stp (some st) = some r → l.foldl stp (some (st ++ t)) = some (r ++ t)
  | [], st, r, t, h => by
    cases h
    rfl
  | c :: l, st, r, t, h => by
    rw [List.foldl_cons] at h ⊢
    by_cases h1 : c ∈ OPN
    · rw [stp_opn h1] at h ⊢
      exact fold_deep l (oth c :: st) r t h
    · by_cases h2 : c ∈ CLO
      · cases st with
        | nil =>
          have e : stp (some []) c = none := by unfold stp; simp only [h1, h2, if_true, if_false]
          rw [e, fold_none] at h
          cases h
        | cons d st =>
          by_cases hd : d = c
          · subst hd
            rw [stp_clo h2] at h
            rw [List.cons_append, stp_clo h2]
            exact fold_deep l st r t h
          · have e : stp (some (d :: st)) c = none := by unfold stp; simp only [h1, h2, hd, if_true, if_false]
            rw [e, fold_none] at h
            cases h
      · rw [stp_let h1 h2] at h ⊢
        exact fold_deep l st r t h
theorem run_clean_app {a b : List Nat} (h : clean a) : run (a ++ b) = run b := by
  rw [run_app, h]
  rfl
theorem fold_run {l : List Nat} {st r : List Nat} (h : run l = some r) : l.foldl stp (some st) = some (r ++ st) := by
  have := fold_deep l [] r st h
  simpa using this
/-- a clean text leaves each pile -/
theorem fold_clean {l : List Nat} (h : clean l) (st : Option (List Nat)) : l.foldl stp st = st := by
  cases st with
  | none => exact fold_none l
  | some st => simpa using fold_run (st := st) h
theorem clean_app {a b : List Nat} (h1 : clean a) (h2 : clean b) : clean (a ++ b) := by
  unfold clean
  rw [run_clean_app h1]
  exact h2
theorem clean_pair {c : Nat} {a : List Nat} (hc : c ∈ OPN) (h : clean a) : clean (c :: (a ++ [oth c])) := by
  show (c :: (a ++ [oth c])).foldl stp (some []) = some []
  rw [List.foldl_cons, stp_opn hc, List.foldl_append, fold_clean h]
  exact stp_clo (oth_clo c hc)
/-! ### the program's way -/
/-- what holds of both lists when the signs below n are gone over -/
structure PInv (l : List Nat) (n : Nat) (f : List (Option Nat)) (ws : List Nat) : Prop where
  len : f.length = l.length
  fnd : ∀ i j, f[i]? = some (some j) ↔ (ptn l i j ∧ j < n) ∨ (ptn l j i ∧ i < n)
  opn : ∀ j ∈ ws, j < n ∧ ∃ c, l[j]? = some c ∧ c ∈ OPN
  pile : ∀ k j, ws[k]? = some j → run (seg l (j + 1) n) = some ((ws.take k).map fun j => oth (l.getD j 0))
  all : ∀ i c, i < n → l[i]? = some c → c ∈ OPN → (run (seg l (i + 1) n)).isSome = true → i ∈ ws
  good : ∀ st, run (l.take n) = some st → ws.map (fun j => oth (l.getD j 0)) = st ∧ ∀ i c, i < n → l[i]? = some c → c ∈ BRK → f[i]? = some none → i ∈ ws
  bad : run (l.take n) = none → ∃ i c, i < n ∧ l[i]? = some c ∧ c ∈ CLO ∧ ∀ j, ¬ ptn l j i
/-- one closing bracket closes at most the last that waits -/
theorem PInv.top {l : List Nat} {n c : Nat} {f : List (Option Nat)} {ws : List Nat} (I : PInv l n f ws) (hc : l[n]? = some c) (h2 : c ∈ CLO) {i : Nat} (h : ptn l i n) : ∃ w, ws = i :: w ∧ l[i]? = some (oth c) := by
  obtain ⟨hlt, d, hd, hdo, hnd, hcl⟩ := h
  rw [hnd] at hc
  have ed : oth d = c := Option.some.inj hc
  have hi : i ∈ ws := I.all i d hlt hd hdo (by rw [hcl]; rfl)
  obtain ⟨k, hk⟩ := List.mem_iff_getElem?.mp hi
  have hp := I.pile k i hk
  rw [hcl] at hp
  have hk0 : ws.take k = [] := by
    have := Option.some.inj hp
    exact List.map_eq_nil_iff.mp this.symm
  have hk00 : k = 0 := by
    rcases Nat.eq_zero_or_pos k with h | h
    · exact h
    · exfalso
      have hlen : k < ws.length := (List.getElem?_eq_some_iff.mp hk).1
      have := congrArg List.length hk0
      rw [List.length_take, List.length_nil] at this
      omega
  subst hk00
  cases ws with
  | nil => cases hk
  | cons a w =>
    have : a = i := Option.some.inj hk
    subst this
    refine ⟨w, rfl, ?_⟩
    rw [hd, ← ed, oth_oth d (brk_or.mpr (.inl hdo))]
end Ly

set_option maxHeartbeats 4000000
namespace Ly
theorem clean_let {c : Nat} {r : List Nat} (h1 : c ∉ OPN) (h2 : c ∉ CLO) : clean (c :: r) ↔ clean r := by
  show (c :: r).foldl stp (some []) = some [] ↔ _
  rw [List.foldl_cons, stp_let h1 h2]
  rfl
/-! ### by places -/
end Ly

set_option maxHeartbeats 4000000
namespace Ly
/-! ### partners found from behind -/
def over (l : List Nat) (m : List (Option Nat)) (s : Nat) : Bool := match l[s]? with
  | none => false
  | some c => if c ∈ CLO then false else if c ∈ OPN then (match m[s]? with | some (some _) => true | _ => false) else true
end Ly

set_option maxHeartbeats 4000000
namespace Ly
/-! ### clean texts put together -/
def cntO (l : List Nat) : Nat := l.countP fun c => decide (c ∈ OPN)
def cntC (l : List Nat) : Nat := l.countP fun c => decide (c ∈ CLO)
theorem fold_cnt : ∀ (l st r : List Nat), l.foldl stp (some st) = some r → cntC l + r.length = cntO l + st.length
  | [], st, r, h => by
    cases h
    simp [cntC, cntO]
  | c :: l, st, r, h => by
    rw [List.foldl_cons] at h
    have eC : cntC (c :: l) = cntC l + if c ∈ CLO then 1 else 0 := by
      unfold cntC
      rw [List.countP_cons]
      simp
    have eO : cntO (c :: l) = cntO l + if c ∈ OPN then 1 else 0 := by
      unfold cntO
      rw [List.countP_cons]
      simp
    by_cases h1 : c ∈ OPN
    · have h2 : c ∉ CLO := opn_clo c h1
      rw [stp_opn h1] at h
      have := fold_cnt l _ r h
      rw [eC, eO, if_pos h1, if_neg h2]
      simp at this
      omega
    · by_cases h2 : c ∈ CLO
      · cases st with
        | nil =>
          have e : stp (some []) c = none := by unfold stp; simp only [h1, h2, if_true, if_false]
          rw [e, fold_none] at h
          cases h
        | cons d st =>
          by_cases hd : d = c
          · subst hd
            rw [stp_clo h2] at h
            have := fold_cnt l _ r h
            rw [eC, eO, if_neg h1, if_pos h2]
            simp
            omega
          · have e : stp (some (d :: st)) c = none := by unfold stp; simp only [h1, h2, hd, if_true, if_false]
            rw [e, fold_none] at h
            cases h
      · rw [stp_let h1 h2] at h
        have := fold_cnt l _ r h
        rw [eC, eO, if_neg h1, if_neg h2]
        omega
theorem clean_cnt {l : List Nat} (h : clean l) : cntC l = cntO l := by
  have := fold_cnt l [] [] h
  simpa using this
end Ly

set_option maxHeartbeats 4000000
namespace Ly
open PySem PySem.Spec PyProof.Rows L2 SX
/-! ### text[i:j] -/
section
variable {K : PySem.W.Frag} {H : Hp} {Q : VK} {p a : Addr} {xs : List V}
end
end Ly

set_option maxHeartbeats 4000000
namespace Ly
/-! ### kinds renamed -/
/-! ### turned about -/
/-- the sign turned -/
def tn (c : Nat) : Nat := if c ∈ BRK then oth c else c
end Ly

set_option maxHeartbeats 4000000
namespace Ly
/-! ### clean stretches counted -/
/-- how many begins of l that are not empty are clean -/
def cp (l : List Nat) : Nat := (List.range l.length).countP fun k => decide (clean (l.take (k + 1)))
def many : List Nat → Nat
  | [] => 0
  | c :: r => cp (c :: r) + many r
/-! sums -/
/-! ### by places -/
def cps (l : List Nat) : List Nat := (List.range (l.length + 1)).map fun i => cp (l.drop i)
/-! ### texts of one kind -/
/-! ### units -/
end Ly

set_option maxHeartbeats 4000000
namespace Ly
open PySem PySem.Spec PyProof.Rows L2 SX PySem.StrLaws
/-! ### pairs struck out -/
/-! the program's texts -/
end Ly

set_option maxHeartbeats 4000000
namespace Ly
open PySem PySem.Spec PyProof.Rows L2 SX
/-! ### nests in the heap: each inner list is one of its own -/
inductive Nd where
  | let_ (c : Nat)
  | num (i : Int)
  | br (o : Nat) (ds : List Nd)
mutual
inductive TrI (H : Hp) : V → Nd → List Addr → Prop
  | let_ (c : Nat) : TrI H (Tx [c]) (.let_ c) []
  | num (i : Int) : TrI H (.int i) (.num i) []
  | br {t b : Addr} {o : Nat} {xs : List V} {ds : List Nd} {A : List Addr} : H t = some (.tup [Tx [o], .ref b]) → H b = some (.lst xs) → TrIs H xs ds A → TrI H (.ref t) (.br o ds) (b :: A)
inductive TrIs (H : Hp) : List V → List Nd → List Addr → Prop
  | nil : TrIs H [] [] []
  | cons {v : V} {vs : List V} {d : Nd} {ds : List Nd} {A B : List Addr} : TrI H v d A → TrIs H vs ds B → TrIs H (v :: vs) (d :: ds) (A ++ B)
end
/-- all but the lists in C stay -/
def ButS (C : List Addr) (H H' : Hp) : Prop := (∀ x ∈ C, ∃ ys, H x = some (.lst ys)) ∧ ∀ x o, H x = some o → x ∉ C → H' x = some o
theorem ButS.refl (H : Hp) : ButS [] H H := ⟨by simp, fun _ _ h _ => h⟩
theorem ButS.of_same {H H' : Hp} (s : Same H H') : ButS [] H H' := ⟨by simp, fun x o h _ => s x o h⟩
mutual
theorem TrI.frame {H H' : Hp} {C : List Addr} (s : ButS C H H') : ∀ {v : V} {d : Nd} {A : List Addr}, TrI H v d A → (∀ x ∈ A, x ∉ C) → TrI H' v d A
  | _, _, _, .let_ c, _ => .let_ c
  | _, _, _, .num i, _ => .num i
  | _, _, _, @TrI.br _ t b o xs ds A ht hb hs, h => .br (s.2 _ _ ht fun hc => by obtain ⟨ys, e⟩ := s.1 _ hc; rw [ht] at e; cases e) (s.2 _ _ hb (h b (List.mem_cons_self ..))) (TrIs.frame s hs fun x hx => h x (List.mem_cons_of_mem _ hx))
theorem TrIs.frame {H H' : Hp} {C : List Addr} (s : ButS C H H') : ∀ {vs : List V} {ds : List Nd} {A : List Addr}, TrIs H vs ds A → (∀ x ∈ A, x ∉ C) → TrIs H' vs ds A
  | _, _, _, .nil, _ => .nil
  | _, _, _, .cons hi hs, h => .cons (TrI.frame s hi fun x hx => h x (List.mem_append_left _ hx)) (TrIs.frame s hs fun x hx => h x (List.mem_append_right _ hx))
end
mutual
theorem TrI.lsts {H : Hp} : ∀ {v : V} {d : Nd} {A : List Addr}, TrI H v d A → ∀ x ∈ A, ∃ ys, H x = some (.lst ys)
  | _, _, _, .let_ c, x, hx => by simp at hx
  | _, _, _, .num i, x, hx => by simp at hx
  | _, _, _, .br ht hb hs, x, hx => by
    rcases List.mem_cons.mp hx with rfl | hx
    · exact ⟨_, hb⟩
    · exact TrIs.lsts hs x hx
theorem TrIs.lsts {H : Hp} : ∀ {vs : List V} {ds : List Nd} {A : List Addr}, TrIs H vs ds A → ∀ x ∈ A, ∃ ys, H x = some (.lst ys)
  | _, _, _, .nil, x, hx => by simp at hx
  | _, _, _, .cons hi hs, x, hx => by
    rcases List.mem_append.mp hx with hx | hx
    · exact TrI.lsts hi x hx
    · exact TrIs.lsts hs x hx
end
theorem TrIs.len {H : Hp} : ∀ {vs : List V} {ds : List Nd} {A : List Addr}, TrIs H vs ds A → vs.length = ds.length
  | _, _, _, .nil => rfl
  | _, _, _, .cons _ hs => by simp [TrIs.len hs]
theorem TrIs.app {H : Hp} : ∀ {vs ws : List V} {ds es : List Nd} {A B : List Addr}, TrIs H vs ds A → TrIs H ws es B → TrIs H (vs ++ ws) (ds ++ es) (A ++ B)
  | _, _, _, _, _, _, .nil, h => h
  | _, _, _, _, _, _, .cons hi hs, h => by
    rw [List.append_assoc]
    exact .cons hi (TrIs.app hs h)
theorem TrIs.snoc {H : Hp} {vs : List V} {v : V} {ds : List Nd} {d : Nd} {A B : List Addr} (h : TrIs H vs ds A) (h1 : TrI H v d B) : TrIs H (vs ++ [v]) (ds ++ [d]) (A ++ B) := by
  have := TrIs.app h (.cons h1 .nil)
  simpa using this
theorem TrIs.split {H : Hp} : ∀ {vs ws : List V} {ds : List Nd} {A : List Addr}, TrIs H (vs ++ ws) ds A → ∃ ds1 ds2 A1 A2, ds = ds1 ++ ds2 ∧ A = A1 ++ A2 ∧ TrIs H vs ds1 A1 ∧ TrIs H ws ds2 A2
  | [], ws, ds, A, h => ⟨[], ds, [], A, rfl, rfl, .nil, h⟩
  | v :: vs, ws, _, _, .cons hi hs => by
    obtain ⟨ds1, ds2, A1, A2, rfl, rfl, h1, h2⟩ := TrIs.split hs
    exact ⟨_ :: ds1, ds2, _ ++ A1, A2, rfl, by rw [List.append_assoc], .cons hi h1, h2⟩
/-! depth, size -/
mutual
def Nd.deep : Nd → Nat
  | .br _ ds => Nd.deeps ds + 1
  | _ => 0
def Nd.deeps : List Nd → Nat
  | [] => 0
  | d :: ds => max (Nd.deep d) (Nd.deeps ds)
end
/-! ### numbered -/
theorem deeps_app : ∀ (ds es : List Nd), Nd.deeps (ds ++ es) = max (Nd.deeps ds) (Nd.deeps es)
  | [], es => by simp [Nd.deeps]
  | d :: ds, es => by
    rw [List.cons_append, Nd.deeps, deeps_app ds es, Nd.deeps]
    omega
end Ly
namespace Ly
open PySem PySem.Spec PyProof.Rows L2 SX
mutual
def Nd.wide : Nd → Nat
  | .br _ ds => Nd.wides ds
  | _ => 0
def Nd.wides : List Nd → Nat
  | [] => 0
  | d :: ds => max (Nd.wide d) (max (ds.length + 1) (Nd.wides ds))
end
theorem len_wides : ∀ ds : List Nd, ds.length ≤ Nd.wides ds
  | [] => Nat.le_refl _
  | d :: ds => by
    rw [Nd.wides, List.length_cons]
    omega
theorem mem_deeps : ∀ {ds : List Nd} {d : Nd}, d ∈ ds → Nd.deep d ≤ Nd.deeps ds
  | e :: ds, d, h => by
    rw [Nd.deeps]
    rcases List.mem_cons.mp h with rfl | h
    · omega
    · have := mem_deeps h
      omega
theorem ButS.trans {C D : List Addr} {H H1 H2 : Hp} (x : ButS C H H1) (y : ButS D H1 H2) (hD : ∀ a ∈ D, ∃ ys, H a = some (.lst ys)) : ButS (C ++ D) H H2 := by
  refine ⟨fun a ha => ?_, fun a o h hn => ?_⟩
  · rcases List.mem_append.mp ha with ha | ha
    · exact x.1 a ha
    · exact hD a ha
  · rw [List.mem_append, not_or] at hn
    exact y.2 a o (x.2 a o h hn.1) hn.2
theorem ButS.but {b : Addr} {xs : List V} {H H1 : Hp} (h : H b = some (.lst xs)) (y : But b H H1) : ButS [b] H H1 := by
  refine ⟨fun a ha => ?_, fun a o h hn => y a o (fun e => hn (by rw [e]; simp)) h⟩
  rw [List.mem_singleton] at ha
  rw [ha]
  exact ⟨_, h⟩
theorem TrI.same {H H' : Hp} (s : Same H H') {v : V} {d : Nd} {A : List Addr} (h : TrI H v d A) : TrI H' v d A := TrI.frame (ButS.of_same s) h (by simp)
theorem TrIs.same {H H' : Hp} (s : Same H H') {v : List V} {d : List Nd} {A : List Addr} (h : TrIs H v d A) : TrIs H' v d A := TrIs.frame (ButS.of_same s) h (by simp)
end Ly

set_option maxHeartbeats 4000000
namespace Ly
open PySem PySem.Spec PyProof.Rows L2 SX
/-! ### a nest being made: the list b hangs in open frames -/
inductive Ctx (H : Hp) : Addr → List Addr → List (List Nd × Nat) → List Addr → Prop
  | nil (b : Addr) : Ctx H b [] [] []
  | cons {b b0 t : Addr} {bs : List Addr} {fs : List (List Nd × Nat)} {A A0 : List Addr} {xs0 : List V} {ds0 : List Nd} {o : Nat} : H b0 = some (.lst (xs0 ++ [.ref t])) → TrIs H xs0 ds0 A0 → H t = some (.tup [Tx [o], .ref b]) → Ctx H b0 bs fs A → Ctx H b (b0 :: bs) ((ds0, o) :: fs) (b0 :: (A0 ++ A))
theorem Ctx.frame {H H' : Hp} {C : List Addr} (s : ButS C H H') : ∀ {b : Addr} {bs : List Addr} {fs : List (List Nd × Nat)} {A : List Addr}, Ctx H b bs fs A → (∀ x ∈ A, x ∉ C) → Ctx H' b bs fs A
  | _, _, _, _, .nil b, _ => .nil b
  | _, _, _, _, .cons h1 h2 h3 h4, h => .cons (s.2 _ _ h1 (h _ (List.mem_cons_self ..))) (TrIs.frame s h2 fun x hx => h x (List.mem_cons_of_mem _ (List.mem_append_left _ hx))) (s.2 _ _ h3 fun hc => by obtain ⟨ys, e⟩ := s.1 _ hc; rw [h3] at e; cases e) (Ctx.frame s h4 fun x hx => h x (List.mem_cons_of_mem _ (List.mem_append_right _ hx)))
theorem Ctx.lsts {H : Hp} : ∀ {b : Addr} {bs : List Addr} {fs : List (List Nd × Nat)} {A : List Addr}, Ctx H b bs fs A → ∀ x ∈ A, ∃ ys, H x = some (.lst ys)
  | _, _, _, _, .nil b, x, hx => by simp at hx
  | _, _, _, _, .cons h1 h2 h3 h4, x, hx => by
    rcases List.mem_cons.mp hx with rfl | hx
    · exact ⟨_, h1⟩
    · rcases List.mem_append.mp hx with hx | hx
      · exact TrIs.lsts h2 x hx
      · exact Ctx.lsts h4 x hx
theorem Ctx.len {H : Hp} : ∀ {b : Addr} {bs : List Addr} {fs : List (List Nd × Nat)} {A : List Addr}, Ctx H b bs fs A → bs.length = fs.length
  | _, _, _, _, .nil b => rfl
  | _, _, _, _, .cons _ _ _ h4 => by simp [Ctx.len h4]
/-- the whole state: the open list, its frames, all lists unlike and new since H0 -/
structure Bld (N : Addr → Prop) (H : Hp) (b : Addr) (bs : List Addr) (fs : List (List Nd × Nat)) (cur : List Nd) : Prop where
  ex : ∃ xs A1 A, H b = some (.lst xs) ∧ TrIs H xs cur A1 ∧ Ctx H b bs fs A ∧ (b :: (A1 ++ A)).Nodup ∧ ∀ x ∈ b :: (A1 ++ A), N x
theorem Bld.start {N : Addr → Prop} {H : Hp} {b : Addr} (h : H b = some (.lst [])) (n : N b) : Bld N H b [] [] [] := ⟨[], [], [], h, .nil, .nil b, by simp, by simpa using n⟩
/-- nothing of it is touched -/
theorem Bld.same {N : Addr → Prop} {H H' : Hp} {b : Addr} {bs : List Addr} {fs : List (List Nd × Nat)} {cur : List Nd} (B : Bld N H b bs fs cur) (s : Same H H') : Bld N H' b bs fs cur := by
  obtain ⟨xs, A1, A, h1, h2, h3, h4, h5⟩ := B.ex
  exact ⟨xs, A1, A, s _ _ h1, TrIs.same s h2, Ctx.frame (ButS.of_same s) h3 (by simp), h4, h5⟩
theorem Bld.but {N : Addr → Prop} {H H' : Hp} {b p : Addr} {bs : List Addr} {fs : List (List Nd × Nat)} {cur : List Nd} {ys : List V} (B : Bld N H b bs fs cur) (s : But p H H') (hp : H p = some (.lst ys)) (hn : ¬ N p) : Bld N H' b bs fs cur := by
  obtain ⟨xs, A1, A, h1, h2, h3, h4, h5⟩ := B.ex
  have bs := ButS.but hp s
  have hno : ∀ x ∈ b :: (A1 ++ A), x ∉ [p] := fun x hx hc => by
    rw [List.mem_singleton] at hc
    rw [hc] at hx
    exact hn (h5 p hx)
  exact ⟨xs, A1, A, bs.2 _ _ h1 (hno b (List.mem_cons_self ..)), TrIs.frame bs h2 fun x hx => hno x (List.mem_cons_of_mem _ (List.mem_append_left _ hx)), Ctx.frame bs h3 fun x hx => hno x (List.mem_cons_of_mem _ (List.mem_append_right _ hx)), h4, h5⟩
theorem Bld.cur {N : Addr → Prop} {H : Hp} {b : Addr} {bs : List Addr} {fs : List (List Nd × Nat)} {cur : List Nd} (B : Bld N H b bs fs cur) : ∃ xs, H b = some (.lst xs) ∧ xs.length = cur.length ∧ N b ∧ bs.length = fs.length := by
  obtain ⟨xs, A1, A, h1, h2, h3, h4, h5⟩ := B.ex
  exact ⟨xs, h1, TrIs.len h2, h5 b (List.mem_cons_self ..), Ctx.len h3⟩
/-- a letter behind -/
theorem Bld.letter {N : Addr → Prop} {H H' : Hp} {b : Addr} {bs : List Addr} {fs : List (List Nd × Nat)} {cur : List Nd} {xs : List V} {c : Nat} (B : Bld N H b bs fs cur) (hb : H b = some (.lst xs)) (s : But b H H') (e : H' b = some (.lst (xs ++ [Tx [c]]))) : Bld N H' b bs fs (cur ++ [.let_ c]) := by
  obtain ⟨xs', A1, A, h1, h2, h3, h4, h5⟩ := B.ex
  rw [hb] at h1
  cases h1
  have bs := ButS.but hb s
  have hn := List.nodup_cons.mp h4
  have hno : ∀ x ∈ A1 ++ A, x ∉ [b] := fun x hx hc => by
    rw [List.mem_singleton] at hc
    rw [hc] at hx
    exact hn.1 hx
  have h2' := TrIs.snoc (TrIs.frame bs h2 fun x hx => hno x (List.mem_append_left _ hx)) (TrI.let_ (H := H') c)
  rw [List.append_nil] at h2'
  exact ⟨_, A1, A, e, h2', Ctx.frame bs h3 fun x hx => hno x (List.mem_append_right _ hx), h4, h5⟩
/-- a bracket opened: i the new list, t the tuple -/
theorem Bld.open_ {N : Addr → Prop} {Hp0 H H' : Hp} {b i t : Addr} {bs : List Addr} {fs : List (List Nd × Nat)} {cur : List Nd} {xs : List V} {o : Nat} (B0 : Bld N Hp0 b bs fs cur) (s0 : Same Hp0 H) (hb : H b = some (.lst xs)) (s : But b H H') (hi : H i = some (.lst [])) (ht : H t = some (.tup [Tx [o], .ref i])) (ni : Hp0 i = none) (hN : N i)
    (e : H' b = some (.lst (xs ++ [.ref t]))) : Bld N H' i (b :: bs) ((cur, o) :: fs) [] := by
  obtain ⟨xs', A1, A, h1, h2, h3, h4, h5⟩ := B0.ex
  have hi' : i ∉ b :: (A1 ++ A) := by
    intro hx
    have : ∃ ys, Hp0 i = some (.lst ys) := by
      rcases List.mem_cons.mp hx with rfl | hx
      · exact ⟨_, h1⟩
      · rcases List.mem_append.mp hx with hx | hx
        · exact TrIs.lsts h2 _ hx
        · exact Ctx.lsts h3 _ hx
    obtain ⟨ys, ey⟩ := this
    rw [ni] at ey
    cases ey
  have h1 := s0 _ _ h1
  have h2 := TrIs.same s0 h2
  have h3 := Ctx.frame (ButS.of_same s0) h3 (by simp)
  rw [hb] at h1
  cases h1
  have bS := ButS.but hb s
  have hn := List.nodup_cons.mp h4
  have hib : i ≠ b := fun e => hi' (by rw [e]; exact List.mem_cons_self ..)
  have htb : t ≠ b := fun e => by rw [e, hb] at ht; cases ht
  have hno : ∀ x ∈ A1 ++ A, x ∉ [b] := fun x hx hc => by
    rw [List.mem_singleton] at hc
    rw [hc] at hx
    exact hn.1 hx
  refine ⟨[], [], b :: (A1 ++ A), s _ _ hib hi, .nil, .cons e (TrIs.frame bS h2 fun x hx => hno x (List.mem_append_left _ hx)) (s _ _ htb ht) (Ctx.frame bS h3 fun x hx => hno x (List.mem_append_right _ hx)), ?_, ?_⟩
  · exact List.nodup_cons.mpr ⟨hi', h4⟩
  · intro x hx
    rcases List.mem_cons.mp hx with rfl | hx
    · exact hN
    · exact h5 x hx
/-- a bracket closed -/
theorem Bld.close {N : Addr → Prop} {H : Hp} {b : Addr} {bs : List Addr} {fs : List (List Nd × Nat)} {cur ds0 : List Nd} {o : Nat} (B : Bld N H b bs ((ds0, o) :: fs) cur) : ∃ b0 bs0, bs = b0 :: bs0 ∧ Bld N H b0 bs0 fs (ds0 ++ [.br o cur]) := by
  obtain ⟨xs, A1, A, h1, h2, h3, h4, h5⟩ := B.ex
  cases h3 with
  | @cons _ b0 t bs0 _ A' A0 xs0 _ _ k1 k2 k3 k4 =>
    refine ⟨b0, bs0, rfl, ⟨xs0 ++ [.ref t], A0 ++ (b :: A1), A', k1, TrIs.snoc k2 (.br k3 h1 h2), k4, ?_, ?_⟩⟩
    · refine List.Perm.nodup (List.perm_iff_count.mpr fun a => ?_) h4
      simp only [List.count_cons, List.count_append]
      omega
    · intro x hx
      refine h5 x ?_
      simp only [List.mem_cons, List.mem_append] at hx ⊢
      rcases hx with rfl | ((hx | rfl | hx) | hx)
      · exact .inr (.inr (.inl rfl))
      · exact .inr (.inr (.inr (.inl hx)))
      · exact .inl rfl
      · exact .inr (.inl hx)
      · exact .inr (.inr (.inr (.inr hx)))
/-! ### what the text tells -/
def nstep (s : List (List Nd × Nat) × List Nd) (c : Nat) : List (List Nd × Nat) × List Nd :=
  if c ∈ CLO then (match s.1 with | (ds, o) :: fs => (fs, ds ++ [.br o s.2]) | [] => s) else if c ∈ OPN then ((s.2, c) :: s.1, []) else (s.1, s.2 ++ [.let_ c])
def nst (l : List Nat) : List (List Nd × Nat) × List Nd := l.foldl nstep ([], [])
def nestD (l : List Nat) : List Nd := (nst l).2
theorem nst_snoc (l : List Nat) (c : Nat) : nst (l ++ [c]) = nstep (nst l) c := by
  unfold nst
  rw [List.foldl_append]
  rfl
/-- the frames are the pile -/
theorem fold_nst : ∀ (l st : List Nat) (fs : List (List Nd × Nat)) (cur : List Nd) (r : List Nat), st = fs.map (fun p => oth p.2) → l.foldl stp (some st) = some r → r = (l.foldl nstep (fs, cur)).1.map fun p => oth p.2
  | [], st, fs, cur, r, h, e => by
    cases e
    exact h
  | c :: l, st, fs, cur, r, h, e => by
    rw [List.foldl_cons] at e ⊢
    by_cases h1 : c ∈ OPN
    · have h2 : c ∉ CLO := opn_clo c h1
      rw [stp_opn h1] at e
      have en : nstep (fs, cur) c = ((cur, c) :: fs, []) := by unfold nstep; rw [if_neg h2, if_pos h1]
      rw [en]
      exact fold_nst l _ _ _ r (by rw [h]; rfl) e
    · by_cases h2 : c ∈ CLO
      · cases fs with
        | nil =>
          subst h
          have e0 : stp (some (List.map (fun p : List Nd × Nat => oth p.2) [])) c = none := by
            show stp (some []) c = none
            unfold stp
            simp only [h1, h2, if_true, if_false]
          rw [e0, fold_none] at e
          cases e
        | cons f fs =>
          obtain ⟨ds, o⟩ := f
          subst h
          by_cases hd : oth o = c
          · have e0 : stp (some (List.map (fun p : List Nd × Nat => oth p.2) ((ds, o) :: fs))) c = some (fs.map fun p => oth p.2) := by
              show stp (some (oth o :: fs.map fun p => oth p.2)) c = _
              rw [hd, stp_clo h2]
            rw [e0] at e
            have en : nstep ((ds, o) :: fs, cur) c = (fs, ds ++ [.br o cur]) := by unfold nstep; rw [if_pos h2]
            rw [en]
            exact fold_nst l _ _ _ r rfl e
          · have e0 : stp (some (List.map (fun p : List Nd × Nat => oth p.2) ((ds, o) :: fs))) c = none := by
              show stp (some (oth o :: fs.map fun p => oth p.2)) c = none
              unfold stp
              simp only [h1, h2, hd, if_true, if_false]
            rw [e0, fold_none] at e
            cases e
      · rw [stp_let h1 h2] at e
        have en : nstep (fs, cur) c = (fs, cur ++ [.let_ c]) := by unfold nstep; rw [if_neg h2, if_neg h1]
        rw [en]
        exact fold_nst l _ _ _ r h e
theorem nst_run {l st : List Nat} (h : run l = some st) : st = (nst l).1.map fun p => oth p.2 := fold_nst l [] [] [] st rfl h
theorem nst_clean {l : List Nat} (h : clean l) : (nst l).1 = [] := by
  have := nst_run h
  exact List.map_eq_nil_iff.mp this.symm
/-- a closing bracket in a clean text closes one -/
theorem nst_clo {l pre post : List Nat} {c : Nat} (h : clean l) (e : l = pre ++ c :: post) (hc : c ∈ CLO) : ∃ ds o fs, (nst pre).1 = (ds, o) :: fs ∧ oth o = c := by
  have h1 : c ∉ OPN := fun h1 => opn_clo c h1 hc
  have h' : run (pre ++ c :: post) = some [] := by rw [← e]; exact h
  rw [run_app, List.foldl_cons] at h'
  cases hr : run pre with
  | none =>
    rw [hr] at h'
    have : stp none c = none := rfl
    rw [this, fold_none] at h'
    cases h'
  | some st =>
    have hst := nst_run hr
    rw [hr] at h'
    cases hf : (nst pre).1 with
    | nil =>
      rw [hf] at hst
      subst hst
      have e0 : stp (some (List.map (fun p : List Nd × Nat => oth p.2) [])) c = none := by
        show stp (some []) c = none
        unfold stp
        simp only [h1, hc, if_true, if_false]
      rw [e0, fold_none] at h'
      cases h'
    | cons f fs =>
      obtain ⟨ds, o⟩ := f
      rw [hf] at hst
      refine ⟨ds, o, fs, rfl, ?_⟩
      by_cases hd : oth o = c
      · exact hd
      · exfalso
        subst hst
        have e0 : stp (some (List.map (fun p : List Nd × Nat => oth p.2) ((ds, o) :: fs))) c = none := by
          show stp (some (oth o :: fs.map fun p => oth p.2)) c = none
          unfold stp
          simp only [h1, hc, hd, if_true, if_false]
        rw [e0, fold_none] at h'
        cases h'
end Ly
namespace Ly
theorem wides_snoc (ds : List Nd) (d : Nd) : Nd.wides (ds ++ [d]) ≤ max (Nd.wides ds) (max (ds.length + 1) (Nd.wide d)) := by
  induction ds with
  | nil =>
    have e0 : Nd.wides [] = 0 := by rw [Nd.wides]
    have e1 : Nd.wides [d] = max d.wide (max (0 + 1) 0) := by rw [Nd.wides, e0]; rfl
    rw [List.nil_append, e0, e1]
    simp only [List.length_nil]
    omega
  | cons e ds ih =>
    rw [List.cons_append, Nd.wides, Nd.wides, List.length_append]
    simp only [List.length_cons, List.length_nil]
    omega
/-- sizes -/
def nbd (s : List (List Nd × Nat) × List Nd) (n : Nat) : Prop := s.2.length ≤ n ∧ s.1.length ≤ n ∧ Nd.wides s.2 ≤ n ∧ ∀ f ∈ s.1, f.1.length ≤ n ∧ Nd.wides f.1 ≤ n
theorem nbd_step {s : List (List Nd × Nat) × List Nd} {n c : Nat} (h : nbd s n) : nbd (nstep s c) (n + 1) := by
  obtain ⟨fs, cur⟩ := s
  obtain ⟨h1, h2, h3, h4⟩ := h
  have h1' : cur.length ≤ n := h1
  have h2' : fs.length ≤ n := h2
  have h3' : Nd.wides cur ≤ n := h3
  unfold nstep
  by_cases hc : c ∈ CLO
  · rw [if_pos hc]
    cases fs with
    | nil => exact ⟨by show cur.length ≤ _; omega, by simp, by show Nd.wides cur ≤ _; omega, by simp⟩
    | cons f fs =>
      obtain ⟨ds, o⟩ := f
      have hf := h4 (ds, o) (List.mem_cons_self ..)
      have hf1 : ds.length ≤ n := hf.1
      have hf2 : Nd.wides ds ≤ n := hf.2
      have hw := wides_snoc ds (.br o cur)
      rw [Nd.wide] at hw
      simp at h2'
      refine ⟨by simp; omega, by show fs.length ≤ _; omega, by show Nd.wides (ds ++ [.br o cur]) ≤ _; omega, fun g hg => ?_⟩
      have := h4 g (List.mem_cons_of_mem _ hg)
      omega
  · rw [if_neg hc]
    by_cases ho : c ∈ OPN
    · rw [if_pos ho]
      refine ⟨by simp, by simp; omega, by show Nd.wides [] ≤ _; rw [Nd.wides]; omega, fun g hg => ?_⟩
      rcases List.mem_cons.mp hg with rfl | hg
      · exact ⟨by show cur.length ≤ _; omega, by show Nd.wides cur ≤ _; omega⟩
      · have := h4 g hg
        omega
    · rw [if_neg ho]
      have hw := wides_snoc cur (.let_ c)
      have e0 : (Nd.let_ c).wide = 0 := by simp [Nd.wide]
      rw [e0] at hw
      refine ⟨by simp; omega, by show fs.length ≤ _; omega, by show Nd.wides (cur ++ [.let_ c]) ≤ _; omega, fun g hg => ?_⟩
      have := h4 g hg
      omega
theorem nbd_fold : ∀ (l : List Nat) (s : List (List Nd × Nat) × List Nd) (n : Nat), nbd s n → nbd (l.foldl nstep s) (n + l.length)
  | [], s, n, h => h
  | c :: l, s, n, h => by
    rw [List.foldl_cons, List.length_cons, show n + (l.length + 1) = (n + 1) + l.length by omega]
    exact nbd_fold l _ _ (nbd_step h)
theorem nst_bd (l : List Nat) : nbd (nst l) l.length := by
  have := nbd_fold l ([], []) 0 ⟨by simp, by simp, by rw [Nd.wides]; omega, by simp⟩
  rw [Nat.zero_add] at this
  exact this
/-- depths -/
def ndp (s : List (List Nd × Nat) × List Nd) (n : Nat) : Prop := Nd.deeps s.2 + s.1.length ≤ n ∧ ∀ j (f : List Nd × Nat), s.1[j]? = some f → Nd.deeps f.1 + (s.1.length - 1 - j) ≤ n
theorem deeps_snoc (ds : List Nd) (d : Nd) : Nd.deeps (ds ++ [d]) = max (Nd.deeps ds) (Nd.deep d) := by
  rw [deeps_app, Nd.deeps, Nd.deeps]
  omega
theorem ndp_step {s : List (List Nd × Nat) × List Nd} {n c : Nat} (h : ndp s n) : ndp (nstep s c) (n + if c ∈ OPN then 1 else 0) := by
  obtain ⟨fs, cur⟩ := s
  obtain ⟨h1, h4⟩ := h
  have h1' : Nd.deeps cur + fs.length ≤ n := h1
  unfold nstep
  by_cases hc : c ∈ CLO
  · rw [if_pos hc]
    cases fs with
    | nil => exact ⟨by show Nd.deeps cur + 0 ≤ _; simp at h1'; omega, fun j f hf => by cases hf⟩
    | cons f fs =>
      obtain ⟨ds, o⟩ := f
      have hf : Nd.deeps ds + (fs.length + 1 - 1 - 0) ≤ n := h4 0 (ds, o) rfl
      simp at h1'
      refine ⟨?_, fun j g hg => ?_⟩
      · show Nd.deeps (ds ++ [.br o cur]) + fs.length ≤ _
        rw [deeps_snoc, Nd.deep]
        omega
      · have hg' : Nd.deeps g.1 + (fs.length + 1 - 1 - (j + 1)) ≤ n := h4 (j + 1) g hg
        show Nd.deeps g.1 + (fs.length - 1 - j) ≤ _
        omega
  · rw [if_neg hc]
    by_cases ho : c ∈ OPN
    · rw [if_pos ho, if_pos ho]
      refine ⟨?_, fun j g hg => ?_⟩
      · show Nd.deeps [] + (fs.length + 1) ≤ _
        rw [Nd.deeps]
        omega
      · cases j with
        | zero =>
          have : g = (cur, c) := (Option.some.inj hg).symm
          subst this
          show Nd.deeps cur + (fs.length + 1 - 1 - 0) ≤ _
          omega
        | succ j =>
          have hg' : Nd.deeps g.1 + (fs.length - 1 - j) ≤ n := h4 j g hg
          show Nd.deeps g.1 + (fs.length + 1 - 1 - (j + 1)) ≤ _
          omega
    · rw [if_neg ho, if_neg ho]
      refine ⟨?_, fun j g hg => h4 j g hg⟩
      show Nd.deeps (cur ++ [.let_ c]) + fs.length ≤ _
      have e0 : (Nd.let_ c).deep = 0 := by simp [Nd.deep]
      rw [deeps_snoc, e0]
      omega
theorem ndp_fold : ∀ (l : List Nat) (s : List (List Nd × Nat) × List Nd) (n : Nat), ndp s n → ndp (l.foldl nstep s) (n + cntO l)
  | [], s, n, h => h
  | c :: l, s, n, h => by
    have e : cntO (c :: l) = (if c ∈ OPN then 1 else 0) + cntO l := by
      unfold cntO
      rw [List.countP_cons]
      simp
      omega
    rw [List.foldl_cons, e, ← Nat.add_assoc]
    exact ndp_fold l _ _ (ndp_step h)
/-- a clean text's nest is at most half as deep as it is long -/
theorem nest_deep {l : List Nat} (h : clean l) : 2 * Nd.deeps (nestD l) ≤ l.length := by
  have h1 := (ndp_fold l ([], []) 0 ⟨by show Nd.deeps [] + 0 ≤ 0; rw [Nd.deeps]; omega, fun j f hf => by cases hf⟩).1
  have h2 : Nd.deeps (nestD l) ≤ cntO l := by
    have : Nd.deeps (nst l).2 + (nst l).1.length ≤ 0 + cntO l := h1
    show Nd.deeps (nst l).2 ≤ _
    omega
  have h3 := clean_cnt h
  have h4 : cntO l + cntC l ≤ l.length := by
    have : ∀ l : List Nat, cntO l + cntC l ≤ l.length := by
      intro l
      induction l with
      | nil => simp [cntO, cntC]
      | cons c l ih =>
        have eO : cntO (c :: l) = cntO l + if c ∈ OPN then 1 else 0 := by unfold cntO; rw [List.countP_cons]; simp
        have eC : cntC (c :: l) = cntC l + if c ∈ CLO then 1 else 0 := by unfold cntC; rw [List.countP_cons]; simp
        rw [eO, eC, List.length_cons]
        by_cases h1 : c ∈ OPN
        · rw [if_pos h1, if_neg (opn_clo c h1)]
          omega
        · rw [if_neg h1]
          split <;> omega
    exact this l
  omega
end Ly
namespace Ly
mutual
/-- the text of a nest -/
def txI : Nd → List Nat
  | .let_ c => [c]
  | .num _ => []
  | .br o ds => o :: (txN ds ++ [oth o])
def txN : List Nd → List Nat
  | [] => []
  | d :: ds => txI d ++ txN ds
end
theorem txN_app : ∀ ds es : List Nd, txN (ds ++ es) = txN ds ++ txN es
  | [], es => by rw [List.nil_append, txN, List.nil_append]
  | d :: ds, es => by rw [List.cons_append, txN, txN_app ds es, txN, List.append_assoc]
theorem txN_one (d : Nd) : txN [d] = txI d := by rw [txN, txN, List.append_nil]
/-- the text of a nest being made -/
def txF : List (List Nd × Nat) → List Nat
  | [] => []
  | (ds, o) :: fs => txF fs ++ txN ds ++ [o]
def txS (s : List (List Nd × Nat) × List Nd) : List Nat := txF s.1 ++ txN s.2
theorem fold_tx : ∀ (l st : List Nat) (fs : List (List Nd × Nat)) (cur : List Nd) (r : List Nat), st = fs.map (fun p => oth p.2) → l.foldl stp (some st) = some r → txS (l.foldl nstep (fs, cur)) = txS (fs, cur) ++ l
  | [], st, fs, cur, r, h, e => by rw [List.append_nil]; rfl
  | c :: l, st, fs, cur, r, h, e => by
    rw [List.foldl_cons] at e ⊢
    by_cases h1 : c ∈ OPN
    · have h2 : c ∉ CLO := opn_clo c h1
      rw [stp_opn h1] at e
      have en : nstep (fs, cur) c = ((cur, c) :: fs, []) := by unfold nstep; rw [if_neg h2, if_pos h1]
      rw [en, fold_tx l _ _ _ r (by rw [h]; rfl) e]
      show txF fs ++ txN cur ++ [c] ++ txN [] ++ l = txF fs ++ txN cur ++ c :: l
      rw [txN]
      simp
    · by_cases h2 : c ∈ CLO
      · cases fs with
        | nil =>
          subst h
          have e0 : stp (some (List.map (fun p : List Nd × Nat => oth p.2) [])) c = none := by
            show stp (some []) c = none
            unfold stp
            simp only [h1, h2, if_true, if_false]
          rw [e0, fold_none] at e
          cases e
        | cons f fs =>
          obtain ⟨ds, o⟩ := f
          subst h
          by_cases hd : oth o = c
          · have e0 : stp (some (List.map (fun p : List Nd × Nat => oth p.2) ((ds, o) :: fs))) c = some (fs.map fun p => oth p.2) := by
              show stp (some (oth o :: fs.map fun p => oth p.2)) c = _
              rw [hd, stp_clo h2]
            rw [e0] at e
            have en : nstep ((ds, o) :: fs, cur) c = (fs, ds ++ [.br o cur]) := by unfold nstep; rw [if_pos h2]
            rw [en, fold_tx l _ _ _ r rfl e]
            show txF fs ++ txN (ds ++ [.br o cur]) ++ l = txF fs ++ txN ds ++ [o] ++ txN cur ++ c :: l
            rw [txN_app, txN_one, txI, hd]
            simp
          · have e0 : stp (some (List.map (fun p : List Nd × Nat => oth p.2) ((ds, o) :: fs))) c = none := by
              show stp (some (oth o :: fs.map fun p => oth p.2)) c = none
              unfold stp
              simp only [h1, h2, hd, if_true, if_false]
            rw [e0, fold_none] at e
            cases e
      · rw [stp_let h1 h2] at e
        have en : nstep (fs, cur) c = (fs, cur ++ [.let_ c]) := by unfold nstep; rw [if_neg h2, if_neg h1]
        rw [en, fold_tx l _ _ _ r h e]
        show txF fs ++ txN (cur ++ [.let_ c]) ++ l = txF fs ++ txN cur ++ c :: l
        rw [txN_app, txN_one, txI]
        simp
theorem tx_nest {l : List Nat} (h : clean l) : txN (nestD l) = l := by
  have e := fold_tx l [] [] [] [] rfl h
  have e1 : txS (nst l) = txS ([], []) ++ l := e
  have e2 : txS (nst l) = txN (nestD l) := by
    unfold txS nestD
    rw [nst_clean h]
    rfl
  have e3 : txS ([], []) = [] := by
    show txF [] ++ txN [] = []
    rw [txN]
    rfl
  rw [← e2, e1, e3]
  rfl
end Ly

set_option maxHeartbeats 4000000
namespace Ly
open PySem PySem.Spec PyProof.Rows L2 SX
/-! ### == and != of deep data -/
theorem Room.wide {k : Nat} {A : Around} (r : Room k A) : A.units + 190 < cLine := by have := r.un; omega
section
variable {X : Cx}
end
/-! nests as data -/
end Ly
namespace Ly
open PySem PySem.Spec PyProof.Rows L2 SX
mutual
/-- brackets are brackets, letters letters, no numbers -/
def ndOk1 : Nd → Prop
  | .br o ds => o ∈ OPN ∧ ndOk ds
  | .let_ c => c ∈ LET
  | .num _ => False
def ndOk : List Nd → Prop
  | [] => True
  | d :: ds => ndOk1 d ∧ ndOk ds
end
theorem ndOk_app : ∀ ds es : List Nd, ndOk ds → ndOk es → ndOk (ds ++ es)
  | [], es, _, h => h
  | d :: ds, es, h1, h2 => by
    rw [ndOk] at h1
    rw [List.cons_append, ndOk]
    exact ⟨h1.1, ndOk_app ds es h1.2 h2⟩
theorem ndOk_one {d : Nd} (h : ndOk1 d) : ndOk [d] := by
  rw [ndOk, ndOk]
  exact ⟨h, trivial⟩
theorem ndOk_step {s : List (List Nd × Nat) × List Nd} {c : Nat} (hc : isSg c) (h : ndOk s.2 ∧ ∀ f ∈ s.1, ndOk f.1 ∧ f.2 ∈ OPN) : ndOk (nstep s c).2 ∧ ∀ f ∈ (nstep s c).1, ndOk f.1 ∧ f.2 ∈ OPN := by
  obtain ⟨fs, cur⟩ := s
  obtain ⟨h1, h2⟩ := h
  unfold nstep
  by_cases hk : c ∈ CLO
  · rw [if_pos hk]
    cases fs with
    | nil => exact ⟨h1, by simp⟩
    | cons f fs =>
      obtain ⟨ds, o⟩ := f
      have hf := h2 (ds, o) (List.mem_cons_self ..)
      refine ⟨ndOk_app _ _ hf.1 (ndOk_one ?_), fun g hg => h2 g (List.mem_cons_of_mem _ hg)⟩
      rw [ndOk1]
      exact ⟨hf.2, h1⟩
  · rw [if_neg hk]
    by_cases ho : c ∈ OPN
    · rw [if_pos ho]
      refine ⟨by show ndOk []; rw [ndOk]; trivial, fun g hg => ?_⟩
      rcases List.mem_cons.mp hg with rfl | hg
      · exact ⟨h1, ho⟩
      · exact h2 g hg
    · rw [if_neg ho]
      refine ⟨ndOk_app _ _ h1 (ndOk_one ?_), h2⟩
      rw [ndOk1]
      rcases hc with hc | hc
      · exact hc
      · rcases brk_or.mp hc with h | h
        · exact absurd h ho
        · exact absurd h hk
theorem ndOk_fold : ∀ (l : List Nat) (s : List (List Nd × Nat) × List Nd), (∀ c ∈ l, isSg c) → (ndOk s.2 ∧ ∀ f ∈ s.1, ndOk f.1 ∧ f.2 ∈ OPN) → ndOk (l.foldl nstep s).2 ∧ ∀ f ∈ (l.foldl nstep s).1, ndOk f.1 ∧ f.2 ∈ OPN
  | [], s, _, h => h
  | c :: l, s, hs, h => ndOk_fold l _ (fun x hx => hs x (List.mem_cons_of_mem _ hx)) (ndOk_step (hs c (List.mem_cons_self ..)) h)
theorem nest_ok {l : List Nat} (hs : ∀ c ∈ l, isSg c) : ndOk (nestD l) := (ndOk_fold l ([], []) hs ⟨by show ndOk []; rw [ndOk]; trivial, by simp⟩).1
end Ly
namespace Ly
open PySem PySem.Spec PyProof.Rows L2 SX
end Ly
namespace Ly
end Ly

set_option maxHeartbeats 4000000
namespace Ly
open PySem PySem.Spec PyProof.Rows L2 SX
/-! ### more steps -/
theorem kb_str_str : kitB "str" "str" = some true := by decide +kernel
theorem kb_str_int : kitB "str" "int" = some false := by decide +kernel
theorem kb_str_bool : kitB "str" "bool" = some false := by decide +kernel
theorem kb_str_list : kitB "str" "list" = some false := by decide +kernel
theorem kb_str_tuple : kitB "str" "tuple" = some false := by decide +kernel
theorem kb_int_str : kitB "int" "str" = some false := by decide +kernel
theorem kb_int_int : kitB "int" "int" = some true := by decide +kernel
theorem kb_int_bool : kitB "int" "bool" = some false := by decide +kernel
theorem kb_int_list : kitB "int" "list" = some false := by decide +kernel
theorem kb_int_tuple : kitB "int" "tuple" = some false := by decide +kernel
theorem kb_bool_str : kitB "bool" "str" = some false := by decide +kernel
theorem kb_bool_int : kitB "bool" "int" = some true := by decide +kernel
theorem kb_bool_bool : kitB "bool" "bool" = some true := by decide +kernel
theorem kb_bool_list : kitB "bool" "list" = some false := by decide +kernel
theorem kb_bool_tuple : kitB "bool" "tuple" = some false := by decide +kernel
theorem kb_list_str : kitB "list" "str" = some false := by decide +kernel
theorem kb_list_int : kitB "list" "int" = some false := by decide +kernel
theorem kb_list_bool : kitB "list" "bool" = some false := by decide +kernel
theorem kb_list_list : kitB "list" "list" = some true := by decide +kernel
theorem kb_list_tuple : kitB "list" "tuple" = some false := by decide +kernel
theorem kb_tuple_str : kitB "tuple" "str" = some false := by decide +kernel
theorem kb_tuple_int : kitB "tuple" "int" = some false := by decide +kernel
theorem kb_tuple_bool : kitB "tuple" "bool" = some false := by decide +kernel
theorem kb_tuple_list : kitB "tuple" "list" = some false := by decide +kernel
theorem kb_tuple_tuple : kitB "tuple" "tuple" = some true := by decide +kernel
theorem kb_NoneType_str : kitB "NoneType" "str" = some false := by decide +kernel
theorem kb_NoneType_int : kitB "NoneType" "int" = some false := by decide +kernel
theorem kb_NoneType_bool : kitB "NoneType" "bool" = some false := by decide +kernel
theorem kb_NoneType_list : kitB "NoneType" "list" = some false := by decide +kernel
theorem kb_NoneType_tuple : kitB "NoneType" "tuple" = some false := by decide +kernel
theorem kb_dict_str : kitB "dict" "str" = some false := by decide +kernel
theorem kb_dict_int : kitB "dict" "int" = some false := by decide +kernel
theorem kb_dict_bool : kitB "dict" "bool" = some false := by decide +kernel
theorem kb_dict_list : kitB "dict" "list" = some false := by decide +kernel
theorem kb_dict_tuple : kitB "dict" "tuple" = some false := by decide +kernel
section
variable {K : PySem.W.Frag} {σ : L2.St} {H : Hp} {Q : VK} {A B : Prop} {p a : Addr} {xs : List V} {v : V} {i : Int}
theorem g_T (q : A) : ∃ k, V.bl true = V.bl k ∧ if k = true then A else B := ⟨true, rfl, by rw [if_pos rfl]; exact q⟩
theorem g_F (q : B) : ∃ k, V.bl false = V.bl k ∧ if k = true then A else B := ⟨false, rfl, by rw [if_neg Bool.false_ne_true]; exact q⟩
theorem g_NT (q : B) : ∃ k, V.bl true = V.bl k ∧ if (!k) = true then A else B := ⟨true, rfl, q⟩
theorem g_NF (q : A) : ∃ k, V.bl false = V.bl k ∧ if (!k) = true then A else B := ⟨false, rfl, q⟩
theorem g_nT (q : A) : ∃ k, V.bl (!true) = V.bl k ∧ if k = true then B else A := ⟨false, rfl, q⟩
theorem g_nF (q : B) : ∃ k, V.bl (!false) = V.bl k ∧ if k = true then B else A := ⟨true, rfl, q⟩
theorem g_Td {c : Prop} [Decidable c] (h : c) (q : A) : ∃ k, V.bl (decide c) = V.bl k ∧ if k = true then A else B := by rw [decide_eq_true h]; exact g_T q
theorem g_Fd {c : Prop} [Decidable c] (h : ¬ c) (q : B) : ∃ k, V.bl (decide c) = V.bl k ∧ if k = true then A else B := by rw [decide_eq_false h]; exact g_F q
theorem g_NTd {c : Prop} [Decidable c] (h : c) (q : B) : ∃ k, V.bl (decide c) = V.bl k ∧ if (!k) = true then A else B := by rw [decide_eq_true h]; exact g_NT q
theorem g_NFd {c : Prop} [Decidable c] (h : ¬ c) (q : A) : ∃ k, V.bl (decide c) = V.bl k ∧ if (!k) = true then A else B := by rw [decide_eq_false h]; exact g_NF q
theorem g_nTd {c : Prop} [Decidable c] (h : c) (q : B) : ∃ k, V.bl (!decide c) = V.bl k ∧ if k = true then A else B := by rw [decide_eq_true h]; exact g_F q
theorem g_nFd {c : Prop} [Decidable c] (h : ¬ c) (q : A) : ∃ k, V.bl (!decide c) = V.bl k ∧ if k = true then A else B := by rw [decide_eq_false h]; exact g_T q
/-- a test that is told as a truth R of its answer -/
theorem g_RT {R : Bool → Hp → Prop} (q : R true H) : ∃ k, V.bl true = V.bl k ∧ R k H := ⟨_, rfl, q⟩
theorem g_RF {R : Bool → Hp → Prop} (q : R false H) : ∃ k, V.bl false = V.bl k ∧ R k H := ⟨_, rfl, q⟩
theorem g_RTd {c : Prop} [Decidable c] {R : Bool → Hp → Prop} (h : c) (q : R true H) : ∃ k, V.bl (decide c) = V.bl k ∧ R k H := ⟨_, rfl, by rw [decide_eq_true h]; exact q⟩
theorem g_RFd {c : Prop} [Decidable c] {R : Bool → Hp → Prop} (h : ¬ c) (q : R false H) : ∃ k, V.bl (decide c) = V.bl k ∧ R k H := ⟨_, rfl, by rw [decide_eq_false h]; exact q⟩
theorem g_eqS {x : V} (h : scal x x = true) (q : Q (.bl true) H) : rEq x x H Q := ⟨h, by rw [decide_eq_true rfl]; exact q⟩
theorem g_neS {x : V} (h : scal x x = true) (q : Q (.bl false) H) : rNe x x H Q := ⟨h, by rw [decide_eq_true rfl]; exact q⟩
theorem g_ixAU3 (h : H p = some (.tup xs)) (h1 : atI xs i = some v) (q : Q v H) : rIx K (.ref p) (.int i) H Q := .inr (.inl (g_ixU (st_of h) h1 q))
theorem g_ixAL3 (h : H p = some (.lst xs)) (h1 : atI xs i = some v) (q : Q v H) : rIx K (.ref p) (.int i) H Q := .inl (g_ixL (sq_of h) h1 q)
theorem g_ixU3 (h : H p = some (.tup xs)) (h1 : atI xs i = some v) (q : Q v H) : rIxT K (.ref p) (.int i) H Q := g_ixU (st_of h) h1 q
theorem g_lenL3 (h : H p = some (.lst xs)) (q : Q (.int xs.length) H) : rLenL K [.ref p] H Q := g_lenL (sq_of h) q
theorem g_lenU3 (h : H p = some (.tup xs)) (q : Q (.int xs.length) H) : rLenL K [.ref p] H Q := g_lenU (st_of h) q
theorem ty_non : TyX K H .non (.type "NoneType") := .base .non
theorem g_tyL3 (h : H p = some (.lst xs)) (q : A) : tyV K "list" (.ref p) H ∧ A := ⟨g_tyL (sq_of h), q⟩
end
end Ly

set_option maxHeartbeats 4000000
namespace Ly
open PySem PySem.Spec PyProof.Rows L2 SX
/-! ### outlines -/
def blk (k : Nat) : List Nat := repT k [32]
theorem blk_len (k : Nat) : (blk k).length = k := by
  unfold blk repT
  rw [List.length_flatten, List.map_replicate, List.sum_replicate_nat]
  simp
theorem blk_mem {k c : Nat} (h : c ∈ blk k) : c = 32 := by
  unfold blk repT at h
  obtain ⟨l, h1, h2⟩ := List.mem_flatten.mp h
  rw [List.mem_replicate] at h1
  rw [h1.2, List.mem_singleton] at h2
  exact h2
mutual
def lnI : Nd → Nat → List (List Nat)
  | .let_ c, k => [blk k ++ [c]]
  | .num _, k => []
  | .br o ds, k => (blk k ++ [o]) :: lnN ds (k + 1)
def lnN : List Nd → Nat → List (List Nat)
  | [], k => []
  | d :: ds, k => lnI d k ++ lnN ds k
end
theorem lnN_app : ∀ (ds es : List Nd) (k : Nat), lnN (ds ++ es) k = lnN ds k ++ lnN es k
  | [], es, k => by rw [List.nil_append, lnN, List.nil_append]
  | d :: ds, es, k => by rw [List.cons_append, lnN, lnN_app ds es, lnN, List.append_assoc]
theorem lnN_one (d : Nd) (k : Nat) : lnN [d] k = lnI d k := by rw [lnN, lnN, List.append_nil]
def lnF : List (List Nd × Nat) → List (List Nat)
  | [] => []
  | (ds, o) :: fs => lnF fs ++ lnN ds fs.length ++ [blk fs.length ++ [o]]
def lnS (s : List (List Nd × Nat) × List Nd) : List (List Nat) := lnF s.1 ++ lnN s.2 s.1.length
theorem lnS_let {s : List (List Nd × Nat) × List Nd} {c : Nat} (h1 : c ∉ OPN) (h2 : c ∉ CLO) : lnS (nstep s c) = lnS s ++ [blk s.1.length ++ [c]] := by
  unfold nstep
  rw [if_neg h2, if_neg h1]
  show lnF s.1 ++ lnN (s.2 ++ [.let_ c]) s.1.length = lnF s.1 ++ lnN s.2 s.1.length ++ _
  rw [lnN_app, lnN_one, lnI, List.append_assoc]
theorem lnS_opn {s : List (List Nd × Nat) × List Nd} {c : Nat} (h1 : c ∈ OPN) : lnS (nstep s c) = lnS s ++ [blk s.1.length ++ [c]] := by
  unfold nstep
  rw [if_neg (opn_clo c h1), if_pos h1]
  show lnF s.1 ++ lnN s.2 s.1.length ++ [blk s.1.length ++ [c]] ++ lnN [] _ = _
  rw [lnN, List.append_nil]
  rfl
theorem lnS_clo {s : List (List Nd × Nat) × List Nd} {c o : Nat} {ds : List Nd} {fs : List (List Nd × Nat)} (h1 : c ∈ CLO) (h : s.1 = (ds, o) :: fs) : lnS (nstep s c) = lnS s := by
  obtain ⟨s1, s2⟩ := s
  have h' : s1 = (ds, o) :: fs := h
  subst h'
  unfold nstep
  rw [if_pos h1]
  show lnF fs ++ lnN (ds ++ [.br o s2]) fs.length = lnF fs ++ lnN ds fs.length ++ [blk fs.length ++ [o]] ++ lnN s2 (fs.length + 1)
  rw [lnN_app, lnN_one, lnI]
  simp
theorem lnS_not {s : List (List Nd × Nat) × List Nd} {c : Nat} (h2 : c ∉ CLO) : lnS (nstep s c) = lnS s ++ [blk s.1.length ++ [c]] := by
  by_cases h1 : c ∈ OPN
  · exact lnS_opn h1
  · exact lnS_let h1 h2
theorem lnS_step {l pre post : List Nat} {c : Nat} (hc : clean l) (e : l = pre ++ c :: post) : lnS (nst (pre ++ [c])) = lnS (nst pre) ++ if c ∈ CLO then [] else [blk (nst pre).1.length ++ [c]] := by
  rw [nst_snoc]
  by_cases h : c ∈ CLO
  · obtain ⟨ds, o, fs, hf, _⟩ := nst_clo hc e h
    rw [if_pos h, lnS_clo h hf, List.append_nil]
  · rw [if_neg h, lnS_not h]
theorem lnS_more {l : List Nat} (hc : clean l) : ∀ (post pre : List Nat), l = pre ++ post → ∃ more, lnS (nst l) = lnS (nst pre) ++ more
  | [], pre, e => ⟨[], by rw [e, List.append_nil, List.append_nil]⟩
  | c :: post, pre, e => by
    obtain ⟨more, h⟩ := lnS_more hc post (pre ++ [c]) (by rw [e]; simp)
    rw [lnS_step hc e] at h
    exact ⟨_, by rw [h, List.append_assoc]⟩
theorem lnS_nest {l : List Nat} (hc : clean l) : lnS (nst l) = lnN (nestD l) 0 := by
  unfold lnS nestD
  rw [nst_clean hc]
  rfl
theorem lnS_nil : lnS (nst []) = [] := by
  show lnF [] ++ lnN [] 0 = []
  rw [lnN]
  rfl
theorem Bld.closes {N : Addr → Prop} {H : Hp} {l : List Nat} (hc : clean l) : ∀ (cl pre post : List Nat) (b : Addr) (bs : List Addr), l = pre ++ (cl ++ post) → (∀ d ∈ cl, d ∈ CLO) → Bld N H b bs (nst pre).1 (nst pre).2 →
    ∃ b' bs', (b :: bs).drop cl.length = b' :: bs' ∧ Bld N H b' bs' (nst (pre ++ cl)).1 (nst (pre ++ cl)).2
  | [], pre, post, b, bs, e, h, B => ⟨b, bs, rfl, by rw [List.append_nil]; exact B⟩
  | c :: cl, pre, post, b, bs, e, h, B => by
    have hk := h c (List.mem_cons_self ..)
    obtain ⟨ds, o, fs, hf, _⟩ := nst_clo (post := cl ++ post) hc e hk
    rw [hf] at B
    obtain ⟨b0, bs0, rfl, B0⟩ := B.close
    have en : nst (pre ++ [c]) = (fs, ds ++ [.br o (nst pre).2]) := by
      rw [nst_snoc]
      unfold nstep
      rw [if_pos hk, hf]
    obtain ⟨b', bs', h1, h2⟩ := Bld.closes hc cl (pre ++ [c]) post b0 bs0 (by rw [e]; simp) (fun d hd => h d (List.mem_cons_of_mem _ hd)) (by rw [en]; exact B0)
    refine ⟨b', bs', by simpa using h1, ?_⟩
    rw [show pre ++ c :: cl = pre ++ [c] ++ cl by simp]
    exact h2
mutual
theorem lnI_len : ∀ (d : Nd) (k : Nat) (x : List Nat), x ∈ lnI d k → k < x.length ∧ x.length ≤ k + d.deep + 1
  | .let_ c, k, x, h => by
    rw [lnI, List.mem_singleton] at h
    rw [h, List.length_append, blk_len]
    simp
  | .num i, k, x, h => by
    rw [lnI] at h
    cases h
  | .br o ds, k, x, h => by
    rw [lnI] at h
    rw [Nd.deep]
    rcases List.mem_cons.mp h with rfl | h
    · rw [List.length_append, blk_len]
      simp
    · have := lnN_len ds (k + 1) x h
      omega
theorem lnN_len : ∀ (ds : List Nd) (k : Nat) (x : List Nat), x ∈ lnN ds k → k < x.length ∧ x.length ≤ k + Nd.deeps ds + 1
  | [], k, x, h => by
    rw [lnN] at h
    cases h
  | d :: ds, k, x, h => by
    rw [lnN] at h
    rw [Nd.deeps]
    rcases List.mem_append.mp h with h | h
    · have := lnI_len d k x h
      omega
    · have := lnN_len ds k x h
      omega
end
mutual
theorem lnI_many : ∀ (d : Nd) (k : Nat), (lnI d k).length ≤ (txI d).length
  | .let_ c, k => by rw [lnI, txI]; simp
  | .num i, k => by rw [lnI]; simp
  | .br o ds, k => by
    have := lnN_many ds (k + 1)
    rw [lnI, txI]
    simp
    omega
theorem lnN_many : ∀ (ds : List Nd) (k : Nat), (lnN ds k).length ≤ (txN ds).length
  | [], k => by rw [lnN]; simp
  | d :: ds, k => by
    have h1 := lnI_many d k
    have h2 := lnN_many ds k
    rw [lnN, txN, List.length_append, List.length_append]
    omega
end
mutual
theorem lnI_sgn : ∀ (d : Nd) (k : Nat), ndOk1 d → ∀ x ∈ lnI d k, ∀ c ∈ x, c = 32 ∨ isSg c
  | .let_ c, k, h, x, hx, e, he => by
    rw [ndOk1] at h
    rw [lnI, List.mem_singleton] at hx
    rw [hx, List.mem_append] at he
    rcases he with he | he
    · exact .inl (blk_mem he)
    · rw [List.mem_singleton] at he
      rw [he]
      exact .inr (.inl h)
  | .num i, k, h, x, hx, e, he => by
    rw [lnI] at hx
    cases hx
  | .br o ds, k, h, x, hx, e, he => by
    rw [ndOk1] at h
    rw [lnI] at hx
    rcases List.mem_cons.mp hx with rfl | hx
    · rcases List.mem_append.mp he with he | he
      · exact .inl (blk_mem he)
      · rw [List.mem_singleton] at he
        rw [he]
        exact .inr (.inr (brk_or.mpr (.inl h.1)))
    · exact lnN_sgn ds (k + 1) h.2 x hx e he
theorem lnN_sgn : ∀ (ds : List Nd) (k : Nat), ndOk ds → ∀ x ∈ lnN ds k, ∀ c ∈ x, c = 32 ∨ isSg c
  | [], k, h, x, hx, e, he => by
    rw [lnN] at hx
    cases hx
  | d :: ds, k, h, x, hx, e, he => by
    rw [ndOk] at h
    rw [lnN] at hx
    rcases List.mem_append.mp hx with hx | hx
    · exact lnI_sgn d k h.1 x hx e he
    · exact lnN_sgn ds k h.2 x hx e he
end
theorem sum_le {n : Nat} : ∀ ls : List (List Nat), (∀ x ∈ ls, x.length ≤ n) → (ls.map (·.length)).sum ≤ ls.length * n
  | [], _ => by simp
  | x :: ls, h => by
    have h1 := h x (List.mem_cons_self ..)
    have h2 := sum_le ls fun y hy => h y (List.mem_cons_of_mem _ hy)
    simp only [List.map_cons, List.sum_cons, List.length_cons, Nat.succ_mul]
    omega
/-! ### text.split(sign) -/
section
variable {X : Cx}
def rSplitT : V → List V → Hp → VK → Prop := fun x xs H Q => ∃ (a b : List Nat), x = Tx a ∧ xs = [Tx b] ∧ b ≠ [] ∧ b.all (· < 256) = true ∧ a.length ≤ 100000 ∧ ∀ p H1, H p = none → Same H H1 → H1 p = some (.lst ((TL.spl b 0 [] a).map Tx)) → Q (.ref p) H1
theorem mt_splitT : MtR X "str.split" rSplitT := fun pins s σ H x xs v us Q I rx rs h => by
  obtain ⟨a, b, h1, h2, h3, h4, h5, q⟩ := h
  refine mt_split pins s σ H x xs v us Q I rx rs ⟨S a, S b, h1, h2, ?_, ?_, fun p np => ?_⟩
  · rw [S_len]
    cases b with
    | nil => exact absurd rfl h3
    | cons c b => rfl
  · rw [S_len]
    exact Nat.le_trans (Nat.add_le_add_right h5 2) (by decide)
  · rw [split_S h3 h4]
    refine q p _ np (Same.new np) ?_
    rw [upd_same, List.map_map]
    rfl
theorem g_splitT {a b : List Nat} {H : Hp} {Q : VK} (h3 : b ≠ []) (h4 : b.all (· < 256) = true) (h5 : a.length ≤ 100000) (q : ∀ p H1, H p = none → Same H H1 → H1 p = some (.lst ((TL.spl b 0 [] a).map Tx)) → Q (.ref p) H1) : rSplitT (Tx a) [Tx b] H Q := ⟨a, b, rfl, rfl, h3, h4, h5, q⟩
end
theorem cut_to {xs : List V} {n : Nat} : cutV xs none (some (n : Int)) = xs.take n := by
  unfold cutV
  rw [HT.sIx_none, HT.sIx_nat, List.drop_zero, Nat.sub_zero]
  rcases Nat.le_total n xs.length with h | h
  · rw [Nat.min_eq_left h]
  · rw [Nat.min_eq_right h, List.take_length, List.take_of_length_le h]
theorem cut_from {xs : List V} {n : Nat} : cutV xs (some (n : Int)) none = xs.drop n := by
  unfold cutV
  rw [HT.sIx_none, HT.sIx_nat]
  rcases Nat.le_total n xs.length with h | h
  · rw [Nat.min_eq_left h]
    exact List.take_of_length_le (by rw [List.length_drop]; omega)
  · rw [Nat.min_eq_right h, List.drop_length, List.drop_of_length_le h]
    simp
end Ly

set_option maxHeartbeats 4000000
namespace Ly
open PySem PySem.Spec PyProof.Rows L2 SX
/-! ### sorted(text) -/
section
variable {prog : Program} {w : World} {A : Around} {E : Value → Shared → Prop} {s : Shared}
end
section
variable {X : Cx}
end
end Ly

set_option maxHeartbeats 4000000
namespace Ly
open PySem PySem.Spec PyProof.Rows L2 SX
/-! ### text[::-1] -/
section
variable {X : Cx}
def rRevT (x : V) (H : Hp) (Q : VK) : Prop := ∃ l : List Nat, x = Tx l ∧ l.length ≤ 100000 ∧ Q (Tx l.reverse) H
def tRevS (te : TE) : TE := fun σ H Q => te σ H fun x H1 => rRevT x H1 Q
def rReplT (y z : List Nat) (x : V) (H : Hp) (Q : VK) : Prop := ∃ l : List Nat, x = Tx l ∧ l.length ≤ 1000 ∧ z.length ≤ 10 ∧ Q (.str (Txt.replace (S l) (S y) (S z))) H
def tReplT (to : TE) (y z : List Nat) : TE := fun σ H Q => to σ H fun v H1 => rReplT y z v H1 Q
end
end Ly
namespace Ly
open PySem PySem.Spec PyProof.Rows L2 SX PySem.StrLaws
end Ly

set_option maxHeartbeats 4000000
namespace Ly
/-! ### least numbers of deeds: strikes and turns -/
/-- how many of two brackets are to be turned -/
def tns (c d : Nat) : Nat := if c ∈ CLO ∨ d ∈ OPN then (if c ∈ CLO then 1 else 0) + (if d ∈ OPN then 1 else 0) else if knd c = knd d then 0 else 1
inductive Mn (l : List Nat) : Nat → Nat → Nat → Prop
  | nil (i : Nat) : Mn l i i 0
  | let_ {i j n c : Nat} : l[i]? = some c → c ∉ BRK → Mn l (i + 1) j n → Mn l i j n
  | str {i j n c : Nat} : l[i]? = some c → c ∈ BRK → Mn l (i + 1) j n → Mn l i j (n + 1)
  | pair {i m j a b c d : Nat} : l[i]? = some c → c ∈ BRK → l[m]? = some d → d ∈ BRK → Mn l (i + 1) m a → Mn l (m + 1) j b → Mn l i j (tns c d + a + b)
theorem Mn.le {l : List Nat} {i j n : Nat} (h : Mn l i j n) : i ≤ j := by
  induction h with
  | nil i => exact Nat.le_refl _
  | let_ _ _ _ ih => omega
  | str _ _ _ ih => omega
  | pair _ _ _ _ _ _ ih1 ih2 => omega
theorem Mn.self {l : List Nat} {i n : Nat} (h : Mn l i i n) : n = 0 := by
  cases h with
  | nil => rfl
  | let_ _ _ h => have := h.le; omega
  | str _ _ h => have := h.le; omega
  | pair _ _ _ _ h1 h2 => have := h1.le; have := h2.le; omega
theorem Mn.app {l : List Nat} {i m j a b : Nat} (h : Mn l i m a) (h2 : Mn l m j b) : Mn l i j (a + b) := by
  induction h with
  | nil i => rw [Nat.zero_add]; exact h2
  | let_ e1 e2 _ ih => exact .let_ e1 e2 (ih h2)
  | @str i j n c e1 e2 _ ih =>
    rw [show n + 1 + b = n + b + 1 by omega]
    exact .str e1 e2 (ih h2)
  | @pair i m j a b' c d e1 e2 e3 e4 h3 _ _ ih =>
    rw [Nat.add_assoc]
    exact .pair e1 e2 e3 e4 h3 (ih h2)
theorem Mn.one_str {l : List Nat} {i c : Nat} (e : l[i]? = some c) (h : c ∈ BRK) : Mn l i (i + 1) 1 := .str e h (.nil _)
theorem Mn.last {l : List Nat} {i j n : Nat} (h : Mn l i j n) : i < j → ∃ c, l[j - 1]? = some c ∧ ((c ∉ BRK ∧ Mn l i (j - 1) n) ∨ (c ∈ BRK ∧ ((∃ n', n = n' + 1 ∧ Mn l i (j - 1) n') ∨ ∃ m d a b, i ≤ m ∧ m < j - 1 ∧ l[m]? = some d ∧ d ∈ BRK ∧ Mn l i m a ∧ Mn l (m + 1) (j - 1) b ∧ n = tns d c + a + b))) := by
  induction h with
  | nil i => intro h; omega
  | @let_ i j n c e1 e2 h ih =>
    intro hij
    by_cases hj : i + 1 = j
    · subst hj
      have := h.self
      subst this
      exact ⟨c, by simpa using e1, .inl ⟨e2, .nil _⟩⟩
    · obtain ⟨c', h1, h2⟩ := ih (by have := h.le; omega)
      refine ⟨c', h1, ?_⟩
      rcases h2 with ⟨h2, h3⟩ | ⟨h2, ⟨n', rfl, h3⟩ | ⟨m, d, a, b, g1, g2, g3, g4, g5, g6, rfl⟩⟩
      · exact .inl ⟨h2, .let_ e1 e2 h3⟩
      · exact .inr ⟨h2, .inl ⟨n', rfl, .let_ e1 e2 h3⟩⟩
      · exact .inr ⟨h2, .inr ⟨m, d, a, b, by omega, g2, g3, g4, .let_ e1 e2 g5, g6, rfl⟩⟩
  | @str i j n c e1 e2 h ih =>
    intro hij
    by_cases hj : i + 1 = j
    · subst hj
      have := h.self
      subst this
      exact ⟨c, by simpa using e1, .inr ⟨e2, .inl ⟨0, rfl, .nil _⟩⟩⟩
    · obtain ⟨c', h1, h2⟩ := ih (by have := h.le; omega)
      refine ⟨c', h1, ?_⟩
      rcases h2 with ⟨h2, h3⟩ | ⟨h2, ⟨n', rfl, h3⟩ | ⟨m, d, a, b, g1, g2, g3, g4, g5, g6, rfl⟩⟩
      · exact .inl ⟨h2, .str e1 e2 h3⟩
      · exact .inr ⟨h2, .inl ⟨n' + 1, rfl, .str e1 e2 h3⟩⟩
      · exact .inr ⟨h2, .inr ⟨m, d, a + 1, b, by omega, g2, g3, g4, .str e1 e2 g5, g6, by omega⟩⟩
  | @pair i m j a b c d e1 e2 e3 e4 h1 h2 ih1 ih2 =>
    intro hij
    by_cases hj : m + 1 = j
    · subst hj
      have := h2.self
      subst this
      have hm := h1.le
      exact ⟨d, by simpa using e3, .inr ⟨e4, .inr ⟨i, c, 0, a, Nat.le_refl _, by omega, e1, e2, .nil _, by simpa using h1, by omega⟩⟩⟩
    · have hm := h1.le
      obtain ⟨c', g1, g2⟩ := ih2 (by have := h2.le; omega)
      refine ⟨c', g1, ?_⟩
      rcases g2 with ⟨g2, g3⟩ | ⟨g2, ⟨n', rfl, g3⟩ | ⟨m', d', a', b', k1, k2, k3, k4, k5, k6, rfl⟩⟩
      · exact .inl ⟨g2, .pair e1 e2 e3 e4 h1 g3⟩
      · exact .inr ⟨g2, .inl ⟨tns c d + a + n', by omega, .pair e1 e2 e3 e4 h1 g3⟩⟩
      · exact .inr ⟨g2, .inr ⟨m', d', tns c d + a + a', b', by omega, k2, k3, k4, .pair e1 e2 e3 e4 h1 k5, k6, by omega⟩⟩
/-- the least that is so -/
def Lst (P : Nat → Prop) (n : Nat) : Prop := P n ∧ ∀ m, P m → n ≤ m
theorem Lst.ex {P : Nat → Prop} : ∀ n, P n → ∃ n, Lst P n := by
  intro n
  induction n using Nat.strongRecOn with
  | ind n ih =>
    intro h
    by_cases hm : ∃ m, m < n ∧ P m
    · obtain ⟨m, h1, h2⟩ := hm
      exact ih m h1 h2
    · exact ⟨n, h, fun m hp => Nat.le_of_not_lt fun hlt => hm ⟨m, hlt, hp⟩⟩
theorem Lst.uniq {P : Nat → Prop} {n m : Nat} (h1 : Lst P n) (h2 : Lst P m) : n = m := Nat.le_antisymm (h1.2 m h2.1) (h2.2 n h1.1)
open Classical in
noncomputable def lstN (l : List Nat) (i j : Nat) : Nat := if h : ∃ n, Lst (Mn l i j) n then Classical.choose h else 0
theorem Mn.ex (l : List Nat) : ∀ (k i : Nat), i + k ≤ l.length → ∃ n, Mn l i (i + k) n
  | 0, i, _ => ⟨0, .nil _⟩
  | k + 1, i, h => by
    obtain ⟨n, hn⟩ := Mn.ex l k (i + 1) (by omega)
    rw [show i + 1 + k = i + (k + 1) by omega] at hn
    have e : l[i]? = some l[i] := List.getElem?_eq_getElem (by omega)
    by_cases hb : l[i] ∈ BRK
    · exact ⟨n + 1, .str e hb hn⟩
    · exact ⟨n, .let_ e hb hn⟩
theorem lstN_spec {l : List Nat} {i j : Nat} (h1 : i ≤ j) (h2 : j ≤ l.length) : Lst (Mn l i j) (lstN l i j) := by
  have hx : ∃ n, Lst (Mn l i j) n := by
    obtain ⟨n, hn⟩ := Mn.ex l (j - i) i (by omega)
    rw [show i + (j - i) = j by omega] at hn
    exact Lst.ex n hn
  unfold lstN
  rw [dif_pos hx]
  exact Classical.choose_spec hx
theorem lstN_of {l : List Nat} {i j n : Nat} (h1 : i ≤ j) (h2 : j ≤ l.length) (h : Lst (Mn l i j) n) : lstN l i j = n := (lstN_spec h1 h2).uniq h
/-! by the first sign -/
/-! by the last sign -/
/-- the numbers that are looked at for a last bracket: the least one so far -/
def LwB (l : List Nat) (i j c k n : Nat) : Prop := Mn l i (j + 1) n ∧ n ≤ lstN l i j + 1 ∧ ∀ m d, i ≤ m → m < i + k → m < j → l[m]? = some d → d ∈ BRK → n ≤ lstN l i m + lstN l (m + 1) j + tns d c
theorem LwB.start {l : List Nat} {i j c : Nat} (hi : i ≤ j) (hj : j < l.length) (e : l[j]? = some c) (hb : c ∈ BRK) : LwB l i j c 0 (lstN l i j + 1) :=
  ⟨(lstN_spec hi (by omega)).1.app (.one_str e hb), Nat.le_refl _, fun m d h1 h2 => by omega⟩
theorem LwB.skip {l : List Nat} {i j c k n d : Nat} (h : LwB l i j c k n) (e : l[i + k]? = some d) (hd : d ∉ BRK) : LwB l i j c (k + 1) n := by
  refine ⟨h.1, h.2.1, fun m d' h1 h2 h3 h4 h5 => ?_⟩
  by_cases hm : m < i + k
  · exact h.2.2 m d' h1 hm h3 h4 h5
  · have : m = i + k := by omega
    subst this
    rw [e] at h4
    exact absurd (Option.some.inj h4 ▸ h5) hd
theorem LwB.step {l : List Nat} {i j c k n d : Nat} (h : LwB l i j c k n) (hj : j < l.length) (ec : l[j]? = some c) (hc : c ∈ BRK) (hk : i + k < j) (e : l[i + k]? = some d) (hd : d ∈ BRK) : LwB l i j c (k + 1) (min n (lstN l i (i + k) + lstN l (i + k + 1) j + tns d c)) := by
  have s1 := lstN_spec (l := l) (show i ≤ i + k by omega) (by omega)
  have s2 := lstN_spec (l := l) (show i + k + 1 ≤ j by omega) (by omega)
  refine ⟨?_, by have := h.2.1; omega, fun m d' h1 h2 h3 h4 h5 => ?_⟩
  · rcases Nat.le_total n (lstN l i (i + k) + lstN l (i + k + 1) j + tns d c) with hq | hq
    · rw [Nat.min_eq_left hq]
      exact h.1
    · rw [Nat.min_eq_right hq]
      have := s1.1.app (Mn.pair e hd ec hc s2.1 (.nil _))
      rw [show lstN l i (i + k) + lstN l (i + k + 1) j + tns d c = lstN l i (i + k) + (tns d c + lstN l (i + k + 1) j + 0) by omega]
      exact this
  · by_cases hm : m < i + k
    · have := h.2.2 m d' h1 hm h3 h4 h5
      omega
    · have : m = i + k := by omega
      subst this
      rw [e] at h4
      have := Option.some.inj h4
      subst this
      exact Nat.min_le_right _ _
theorem LwB.fin {l : List Nat} {i j c n : Nat} (hi : i ≤ j) (hj : j < l.length) (ec : l[j]? = some c) (hc : c ∈ BRK) (h : LwB l i j c (j - i) n) : lstN l i (j + 1) = n := by
  refine lstN_of (by omega) (by omega) ⟨h.1, fun x hx => ?_⟩
  obtain ⟨c', h1, h2⟩ := hx.last (by omega)
  rw [Nat.add_sub_cancel] at h1 h2
  rw [ec] at h1
  have := Option.some.inj h1
  subst this
  rcases h2 with ⟨h2, _⟩ | ⟨_, ⟨n', rfl, h3⟩ | ⟨m, d, a, b, g1, g2, g3, g4, g5, g6, rfl⟩⟩
  · exact absurd hc h2
  · have := (lstN_spec (l := l) hi (by omega)).2 _ h3
    have := h.2.1
    omega
  · have k1 := (lstN_spec (l := l) g1 (by omega)).2 _ g5
    have k2 := (lstN_spec (l := l) (show m + 1 ≤ j by omega) (by omega)).2 _ g6
    have := h.2.2 m d g1 (by omega) g2 g3 g4
    omega
/-! reckoned -/
end Ly

set_option maxHeartbeats 4000000
namespace Ly
open PySem PySem.Spec PyProof.Rows L2 SX
/-! ### dicts whose keys are pairs of whole numbers -/
section
variable {K : PySem.W.Frag} {σ : L2.St} {H H1 : Hp} {Q : VK} {R : Hp → Prop} {a b p : Addr} {i j : Int} {v : V} {n : Nat} {td ty tv : TE} {D : Ends} {xs : List V}
def rDGet (x y : V) (H : Hp) (Q : VK) : Prop := ∃ a v, x = .ref a ∧ DGet H a y (some v) ∧ Q v H
def rDPut (x y v : V) (H : Hp) (R : Hp → Prop) : Prop := ∃ a H4, x = .ref a ∧ DPut H a y v H4 ∧ R H4
def rDNewT (H : Hp) (Q : VK) : Prop := ∀ p, H p = none → Q (.ref p) (upd H p (.dT []))
theorem tDGet_eq : tDGet td ty σ H Q = td σ H fun x H1 => ty σ H1 fun y H2 => rDGet x y H2 Q := rfl
theorem sDPut_eq : sDPut td ty tv D σ H = tv σ H fun v H1 => td σ H1 fun x H2 => ty σ H2 fun y H3 => rDPut x y v H3 (D.nx σ) := rfl
theorem tDNewT_eq : tDNewT σ H Q = rDNewT H Q := rfl
/-- at a stands a dict of pairs, f tells what it holds, at most n entries -/
def DTab (H : Hp) (a : Addr) (f : Int → Int → Option V) (n : Nat) : Prop := ∃ kvs : List (List Key × V), H a = some (.dT kvs) ∧ kvs.length ≤ n ∧ ∀ i j, valV kvs [.inl i, .inl j] = f i j
theorem DTab.same {f : Int → Int → Option V} (h : DTab H a f n) (s : Same H H1) : DTab H1 a f n := by
  obtain ⟨kvs, h1, h2⟩ := h
  exact ⟨kvs, s _ _ h1, h2⟩
theorem DTab.but {f : Int → Int → Option V} (h : DTab H a f n) (s : But p H H1) (hn : a ≠ p) : DTab H1 a f n := by
  obtain ⟨kvs, h1, h2⟩ := h
  exact ⟨kvs, s _ _ hn h1, h2⟩
theorem DTab.ne {f : Int → Int → Option V} (h : DTab H a f n) (hb : H b = none) : a ≠ b := by
  obtain ⟨kvs, h1, h2⟩ := h
  exact ne_new hb h1
/-! ### places told as natural numbers -/
theorem g_ixLn {x : Int} (k : Nat) (h : SqL K H p xs) (hk : x = (k : Int)) (h1 : xs[k]? = some v) (q : Q v H) : rIxL K (.ref p) (.int x) H Q := by
  subst hk
  exact g_ixL h (atI_of h1) q
theorem g_ixTn {l : List Nat} {x : Int} {c : Nat} (k : Nat) (h : l.length ≤ 100000) (hk : x = (k : Int)) (h1 : l[k]? = some c) (q : Q (Tx [c]) H) : rIxT1 (Tx l) (.int x) H Q := by
  subst hk
  exact g_ixT h (atI_of h1) q
theorem g_setLn {x : Int} (k : Nat) (h : H p = some (.lst xs)) (hk : x = (k : Int)) (h1 : k < xs.length) (q : ∀ H1, But p H H1 → H1 p = some (.lst (xs.set k v)) → R H1) : rSetL (.ref p) (.int x) v H R := by
  subst hk
  exact g_setL h (ixN_nat h1) q
/-! ### min, max -/
end
section
variable {X : Cx}
def rMin2 : List V → Hp → VK → Prop := fun xs H Q => ∃ i j : Int, xs = [.int i, .int j] ∧ Q (.int (min i j)) H
def rMax2 : List V → Hp → VK → Prop := fun xs H Q => ∃ i j : Int, xs = [.int i, .int j] ∧ Q (.int (max i j)) H
theorem call_min2' (hc : X.calm = true) : CallR X (.builtin "min") rMin2 := fun pins s σ H xs us Q I r h => by
  obtain ⟨i, j, rfl, q⟩ := h
  refine call_min2 hc pins s σ H _ us Q I r ⟨i, j, rfl, ?_⟩
  have e : (if j < i then j else i) = min i j := by split <;> omega
  rw [e]
  exact q
theorem g_min2 {H : Hp} {Q : VK} {i j : Int} (q : Q (.int (min i j)) H) : rMin2 [.int i, .int j] H Q := ⟨i, j, rfl, q⟩
theorem g_max2 {H : Hp} {Q : VK} {i j : Int} (q : Q (.int (max i j)) H) : rMax2 [.int i, .int j] H Q := ⟨i, j, rfl, q⟩
end
/-! ### a list of lists, each its own -/
/-- at d the list of the lists rs; the k-th holds f k -/
structure Tab (H : Hp) (d : Addr) (rs : List Addr) (f : Nat → List V) : Prop where
  hd : H d = some (.lst (rs.map V.ref))
  r : ∀ k r, rs[k]? = some r → H r = some (.lst (f k))
  nd : rs.Nodup
  nin : d ∉ rs
theorem Tab.same {H H' : Hp} {d : Addr} {rs : List Addr} {f : Nat → List V} (T : Tab H d rs f) (s : Same H H') : Tab H' d rs f := ⟨s _ _ T.hd, fun k r h => s _ _ (T.r k r h), T.nd, T.nin⟩
theorem Tab.but {H H' : Hp} {d p : Addr} {rs : List Addr} {f : Nat → List V} (T : Tab H d rs f) (s : But p H H') (h1 : p ≠ d) (h2 : p ∉ rs) : Tab H' d rs f :=
  ⟨s _ _ (Ne.symm h1) T.hd, fun k r h => s _ _ (fun e => h2 (by rw [← e]; exact List.mem_of_getElem? h)) (T.r k r h), T.nd, T.nin⟩
theorem Tab.fresh {H : Hp} {d p : Addr} {rs : List Addr} {f : Nat → List V} (T : Tab H d rs f) (h : H p = none) : p ≠ d ∧ p ∉ rs := by
  refine ⟨fun e => ?_, fun e => ?_⟩
  · have := T.hd
    rw [← e, h] at this
    cases this
  · obtain ⟨k, hk⟩ := List.getElem?_of_mem e
    have := T.r k p hk
    rw [h] at this
    cases this
/-- one row set -/
theorem Tab.set {H H' : Hp} {d r : Addr} {rs : List Addr} {f : Nat → List V} {k : Nat} {xs : List V} (T : Tab H d rs f) (hk : rs[k]? = some r) (s : But r H H') (h : H' r = some (.lst xs)) : Tab H' d rs (fun i => if i = k then xs else f i) := by
  have hr : r ∈ rs := List.mem_of_getElem? hk
  refine ⟨s _ _ (fun e => T.nin (by rw [e]; exact hr)) T.hd, fun i q hi => ?_, T.nd, T.nin⟩
  by_cases e : i = k
  · subst e
    rw [hk] at hi
    have := Option.some.inj hi
    subst this
    rw [if_pos rfl]
    exact h
  · rw [if_neg e]
    refine s _ _ (fun e2 => e ?_) (T.r i q hi)
    subst e2
    obtain ⟨h1, e1⟩ := List.getElem?_eq_some_iff.mp hi
    obtain ⟨h2, e2⟩ := List.getElem?_eq_some_iff.mp hk
    exact (List.getElem_inj T.nd).mp (e1.trans e2.symm)
theorem Tab.congr {H : Hp} {d : Addr} {rs : List Addr} {f g : Nat → List V} (T : Tab H d rs f) (h : ∀ k, k < rs.length → f k = g k) : Tab H d rs g :=
  ⟨T.hd, fun k r hk => by rw [← h k (List.getElem?_eq_some_iff.mp hk).1]; exact T.r k r hk, T.nd, T.nin⟩
theorem Tab.row {H : Hp} {d : Addr} {rs : List Addr} {f : Nat → List V} (T : Tab H d rs f) {k : Nat} (hk : k < rs.length) : ∃ r, rs[k]? = some r ∧ (rs.map V.ref)[k]? = some (V.ref r) ∧ H r = some (.lst (f k)) := by
  refine ⟨rs[k], List.getElem?_eq_getElem hk, by simp [hk], T.r k _ (List.getElem?_eq_getElem hk)⟩
theorem Tab.snoc {H H' : Hp} {d r : Addr} {rs : List Addr} {f : Nat → List V} {xs : List V} (T : Tab H d rs f) (hr : H' r = some (.lst xs)) (hd : H' d = some (.lst ((rs ++ [r]).map V.ref))) (h1 : r ∉ rs) (h2 : d ≠ r) (hk : ∀ q ∈ rs, ∀ o, H q = some o → H' q = some o) : Tab H' d (rs ++ [r]) (fun i => if i = rs.length then xs else f i) := by
  refine ⟨hd, fun i q hi => ?_, ?_, ?_⟩
  · by_cases e : i < rs.length
    · rw [List.getElem?_append_left e] at hi
      rw [if_neg (by omega)]
      exact hk q (List.mem_of_getElem? hi) _ (T.r i q hi)
    · rw [List.getElem?_append_right (by omega)] at hi
      have e2 : i = rs.length := by
        have := (List.getElem?_eq_some_iff.mp hi).1
        simp at this
        omega
      subst e2
      rw [Nat.sub_self] at hi
      have := Option.some.inj hi
      subst this
      rw [if_pos rfl]
      exact hr
  · rw [List.nodup_append]
    refine ⟨T.nd, by simp, fun a ha b hb => ?_⟩
    rw [List.mem_singleton] at hb
    subst hb
    exact fun e => h1 (by rw [← e]; exact ha)
  · rw [List.mem_append, List.mem_singleton]
    rintro (h | h)
    · exact T.nin h
    · exact h2 h
end Ly

set_option maxHeartbeats 4000000
namespace Ly
open PySem PySem.Spec PyProof.Rows L2 SX
theorem g_ET {R : Bool → Prop} (q : R true) : ∃ k, V.bl true = V.bl k ∧ R k := ⟨_, rfl, q⟩
theorem g_EF {R : Bool → Prop} (q : R false) : ∃ k, V.bl false = V.bl k ∧ R k := ⟨_, rfl, q⟩
theorem g_EnT {R : Bool → Prop} (q : R false) : ∃ k, V.bl (!true) = V.bl k ∧ R k := ⟨_, rfl, q⟩
theorem g_EnF {R : Bool → Prop} (q : R true) : ∃ k, V.bl (!false) = V.bl k ∧ R k := ⟨_, rfl, q⟩
/-! ### list + list, where one may be the script -/
section
variable {X : Cx}
end
section
variable {K : PySem.W.Frag} {σ : L2.St} {H : Hp} {g : TG} {tb : TS} {D : Ends} {a b : Addr} {xs ys : List V}
end
end Ly

namespace Ly
/-! ### least numbers with how often they are met -/
/-- a number of deeds and in how many ways; none: in no way -/
abbrev MC := Option (Nat × Nat)
def mAdd : MC → MC → MC
  | none, y => y
  | some p, none => some p
  | some p, some q => if p.1 < q.1 then some p else if q.1 < p.1 then some q else some (p.1, p.2 + q.2)
def mMul : MC → MC → MC
  | some p, some q => some (p.1 + q.1, p.2 * q.2)
  | _, _ => none
def mOne : MC := some (0, 1)
/-! sums -/
def sm (f : Nat → MC) : Nat → MC
  | 0 => none
  | n + 1 => mAdd (sm f n) (f n)
/-! ### tilings: by the first item, by the last one -/
end Ly

set_option maxHeartbeats 4000000
namespace Ly
open PySem PySem.Spec PyProof.Rows L2 SX
/-! ### classes: their methods, their making -/
section
variable {P : Program} {w : World} {K : PySem.W.Frag} {mg : Str → Option Value} {base : Heap}
end
def rMetO (C : Addr) (m : Str) (x : V) (H : Hp) (A : Prop) : Prop := (∃ a dx fs, x = .ref a ∧ H a = some (.ins C dx fs) ∧ fs.lookup m = none) ∧ A
def tMet (C : Addr) (m : Str) (sp : Sp) (ta : TE) (t : TA) : TE := fun σ H Q => ta σ H fun x H1 => rMetO C m x H1 (t σ H1 fun vs H2 => sp (x :: vs) H2 Q C8.E0)
def rMak (C : Addr) (sp : Sp) (vs : List V) (H : Hp) (Q : VK) : Prop := ∀ x dx, H x = none → H dx = none → dx ≠ x → sp (.ref x :: vs) (upd (upd H dx (.own x)) x (.ins C dx [])) (fun v H2 => v = .non ∧ Q (.ref x) H2) C8.E0
def tMak (C : Addr) (sp : Sp) (t : TA) : TE := fun σ H Q => t σ H fun vs H1 => rMak C sp vs H1 Q
section
variable {X : Cx} {k j : Nat} {C : Addr} {x m : Str} {sp : Sp} {p pos apos : Pos} {e o : Expr} {es : List Expr} {ta : TE} {t : TA}
end
section
variable {K : PySem.W.Frag} {σ : L2.St} {H : Hp} {Q : VK} {A : Prop} {a dx C : Addr} {fs : List (Str × V)} {m f : Str} {v y : V} {ta tv : TE} {D : Ends} {R : Hp → Prop} {sp : Sp} {vs : List V}
def rFld (K : PySem.W.Frag) (f : Str) (x : V) (H : Hp) (Q : VK) : Prop := ∃ a C dx fs v, x = .ref a ∧ H a = some (.ins C dx fs) ∧ Cls K C ∧ NoAttr K C f ∧ fs.lookup f = some v ∧ Q v H
def rSFld (K : PySem.W.Frag) (f : Str) (y x : V) (H : Hp) (R : Hp → Prop) : Prop := ∃ a C dx fs, x = .ref a ∧ H a = some (.ins C dx fs) ∧ Cls K C ∧ NoAttr K C f ∧ fs.length < 1000 ∧ R (upd H a (.ins C dx (putF f y fs)))
theorem tFld_eq : tFld K ta f σ H Q = ta σ H fun x H1 => rFld K f x H1 Q := rfl
theorem sFld_eq : sFld K ta tv f D σ H = tv σ H fun y H1 => ta σ H1 fun x H2 => rSFld K f y x H2 (D.nx σ) := rfl
end
end Ly

namespace Ly
open PySem
/-! ### the head's facts with one truth more -/
abbrev AlE : Type := He.AlD × Bool
def obsEG (n : Nat) (fa : List He.Fa) (fn : List He.DefD) (ex : PySem.W.Frag → Bool) (g : Addr → Option Obj) : AlE := (He.obsDG n fa fn g, ex (He.frG g (He.asD g n)))
def hookE (n : Nat) (fa : List He.Fa) (fn : List He.DefD) (ex : PySem.W.Frag → Bool) : PySem.W.Hook where
  α := AlE
  obs := fun s => obsEG n fa fn ex s.heap.get?
  val := fun _ => (He.valD fn, true)
  says := fun _ h => ∃ K : PySem.W.Frag, K.In h ∧ He.SaysD fa fn K ∧ ex K = true
  of := fun _ _ e => ⟨_, He.frG_in, congrArg Prod.fst e, congrArg Prod.snd e⟩
  keeps := fun _ _ _ ⟨K, hK, c, cx⟩ k => ⟨K, PySem.W.Frag.In.keeps hK k, c, cx⟩
theorem obsEG_eq {n : Nat} {fa : List He.Fa} {fn : List He.DefD} {ex : PySem.W.Frag → Bool} {g : Addr → Option Obj} {s : Shared} (h : ∀ a, g a = s.heap.get? a) : obsEG n fa fn ex g = (hookE n fa fn ex).obs s := by
  have e : g = s.heap.get? := funext h
  rw [e] <;> rfl
end Ly

set_option maxHeartbeats 4000000
namespace Ly
/-! ### least numbers with how many, by words -/
structure Wd where
  pt : Bool
  st : Bool
  tn : Bool
def few (c d : Nat) : Nat × Nat := if c ∈ OPN ∧ d ∈ CLO then (if knd c = knd d then (0, 1) else (1, 2)) else if c ∈ CLO ∧ d ∈ OPN then (2, 4) else (1, 1)
def w1 : MC := some (1, 1)
/-- a pair of the text's signs at i and m -/
def prM (l : List Nat) (W : Wd) (i m : Nat) : MC := match l[i]?, l[m]? with
  | some c, some d => if c ∈ BRK ∧ d ∈ BRK ∧ ((few c d).1 = 0 ∨ W.tn = true) then some (few c d) else none
  | _, _ => none
def opM (l : List Nat) (W : Wd) (i : Nat) : MC := match l[i]? with
  | some c => if c ∈ OPN ∧ W.pt = true then w1 else none
  | none => none
def clM (l : List Nat) (W : Wd) (m : Nat) : MC := match l[m]? with
  | some c => if c ∈ CLO ∧ W.pt = true then w1 else none
  | none => none
/-- the sign alone: a letter, or a struck bracket -/
def sgM (l : List Nat) (W : Wd) (i : Nat) : MC := match l[i]? with
  | some c => if c ∈ BRK then (if W.st = true then w1 else none) else mOne
  | none => none
def m3 (x y z : MC) : MC := mMul (mMul x y) z
/-- by the first sign -/
def stM (l : List Nat) (W : Wd) (F : Nat → Nat → MC) (i j : Nat) : MC :=
  mAdd (mMul (sgM l W i) (F (i + 1) j)) (mAdd (sm (fun t => m3 (prM l W i (i + 1 + t)) (F (i + 1) (i + 1 + t)) (F (i + 1 + t + 1) j)) (j - i - 1))
    (mAdd (sm (fun t => m3 (opM l W i) (F (i + 1) (i + 1 + t)) (F (i + 1 + t) j)) (j - i)) (sm (fun t => m3 (clM l W (i + t)) (F i (i + t)) (F (i + t + 1) j)) (j - i))))
def mcF (l : List Nat) (W : Wd) : Nat → Nat → Nat → MC
  | 0, _, _ => mOne
  | n + 1, i, j => if j ≤ i then mOne else stM l W (mcF l W n) i j
def mcN (l : List Nat) (W : Wd) (i j : Nat) : MC := mcF l W (j - i) i j
/-! by the last sign -/
/-! there is always one, where striking is a word -/
/-! sums of lists -/
end Ly

set_option maxHeartbeats 4000000
namespace Ly
open PySem PySem.Spec PyProof.Rows L2 SX
/-! ### how great the counts can be -/
/-! ### values -/
/-! ### lists of pairs of whole numbers -/
def Prs (H : Hp) (a : Addr) (xs : List (Nat × Nat)) : Prop := ∃ rs : List Addr, H a = some (.lst (rs.map V.ref)) ∧ rs.length = xs.length ∧ ∀ (k : Nat) (r : Addr) (x : Nat × Nat), rs[k]? = some r → xs[k]? = some x → H r = some (.tup [.int x.1, .int x.2])
theorem Prs.same {H H' : Hp} {a : Addr} {xs : List (Nat × Nat)} (h : Prs H a xs) (s : Same H H') : Prs H' a xs := by
  obtain ⟨rs, h1, h2, h3⟩ := h
  exact ⟨rs, s _ _ h1, h2, fun k r x q1 q2 => s _ _ (h3 k r x q1 q2)⟩
theorem Prs.lst {H : Hp} {a : Addr} {xs : List (Nat × Nat)} (h : Prs H a xs) : ∃ ys, H a = some (.lst ys) ∧ ys.length = xs.length := by
  obtain ⟨rs, h1, h2, h3⟩ := h
  exact ⟨_, h1, by rw [List.length_map]; exact h2⟩
theorem Prs.but {H H' : Hp} {a p : Addr} {xs : List (Nat × Nat)} {ys : List V} (h : Prs H a xs) (s : But p H H') (hp : H p = some (.lst ys)) (hn : a ≠ p) : Prs H' a xs := by
  obtain ⟨rs, h1, h2, h3⟩ := h
  refine ⟨rs, s _ _ hn h1, h2, fun k r x q1 q2 => s _ _ (fun e => ?_) (h3 k r x q1 q2)⟩
  have := h3 k r x q1 q2
  rw [e, hp] at this
  cases this
theorem Prs.snoc {H H' : Hp} {a t : Addr} {xs : List (Nat × Nat)} {x : Nat × Nat} (h : Prs H a xs) (ht : H t = some (.tup [.int x.1, .int x.2])) (s : But a H H') (h2 : ∀ rs : List Addr, H a = some (.lst (rs.map V.ref)) → H' a = some (.lst (rs.map V.ref ++ [.ref t]))) : Prs H' a (xs ++ [x]) := by
  obtain ⟨rs, h1, hl, h3⟩ := h
  have ne : ∀ r ys, H r = some (.tup ys) → r ≠ a := fun r ys e q => by rw [q, h1] at e; cases e
  refine ⟨rs ++ [t], by rw [h2 rs h1, List.map_append]; rfl, by simp [hl], fun k r y q1 q2 => ?_⟩
  by_cases e : k < rs.length
  · rw [List.getElem?_append_left e] at q1
    rw [List.getElem?_append_left (by omega)] at q2
    have := h3 k r y q1 q2
    exact s _ _ (ne _ _ this) this
  · have hk : k = rs.length := by
      have := (List.getElem?_eq_some_iff.mp q1).1
      simp at this
      omega
    rw [List.getElem?_append_right (by omega), hk, Nat.sub_self] at q1
    rw [List.getElem?_append_right (by omega), hk, hl, Nat.sub_self] at q2
    have e1 : t = r := Option.some.inj q1
    have e2 : x = y := Option.some.inj q2
    subst e1 e2
    exact s _ _ (ne _ _ ht) ht
/-! ### tuples that stay -/
theorem SqT.same {K : PySem.W.Frag} {H H' : Hp} {a : Addr} {xs : List V} (s : Same H H') (h : SqT K H a xs) : SqT K H' a xs := by
  rcases h with (h | ⟨o, h⟩) | h
  · exact .inl (.inl (s _ _ h))
  · exact .inl (.inr ⟨o, s _ _ h⟩)
  · exact .inr h
theorem SqT.but {K : PySem.W.Frag} {H H' : Hp} {a p : Addr} {xs : List V} {u : HO} (s : But p H H') (h : SqT K H a xs) (hp : H p = some u) (hu : (∀ ys, u ≠ .tup ys) ∧ ∀ o ys, u ≠ .frz o (.tup ys)) : SqT K H' a xs := by
  rcases h with (h | ⟨o, h⟩) | h
  · exact .inl (.inl (s _ _ (fun e => by rw [e, hp] at h; exact hu.1 _ (Option.some.inj h)) h))
  · exact .inl (.inr ⟨o, s _ _ (fun e => by rw [e, hp] at h; exact hu.2 _ _ (Option.some.inj h)) h⟩)
  · exact .inr h
/-- the words: a tuple of texts -/
def WdIs (K : PySem.W.Frag) (H : Hp) (v : V) (W : Wd) : Prop := ∃ a xs, v = .ref a ∧ SqT K H a xs ∧ xs.all flatV = true ∧ inV (Tx [112, 117, 116]) xs = W.pt ∧ inV (Tx [115, 116, 114, 105, 107, 101]) xs = W.st ∧ inV (Tx [116, 117, 114, 110]) xs = W.tn
theorem WdIs.same {K : PySem.W.Frag} {H H' : Hp} {v : V} {W : Wd} (h : WdIs K H v W) (s : Same H H') : WdIs K H' v W := by
  obtain ⟨a, xs, h1, h2, h3⟩ := h
  exact ⟨a, xs, h1, SqT.same s h2, h3⟩
theorem WdIs.but {K : PySem.W.Frag} {H H' : Hp} {v : V} {W : Wd} {p : Addr} {ys : List V} (h : WdIs K H v W) (s : But p H H') (hp : H p = some (.lst ys)) : WdIs K H' v W := by
  obtain ⟨a, xs, h1, h2, h3⟩ := h
  exact ⟨a, xs, h1, SqT.but s h2 hp ⟨(fun _ e => nomatch e), (fun _ _ e => nomatch e)⟩, h3⟩
/-! ### the object -/
end Ly

set_option maxHeartbeats 4000000
namespace Ly
/-! ### alike opening brackets: Catalan's numbers -/
section
variable {m c : Nat} (hc : c ∈ OPN)
include hc
end
end Ly

set_option maxHeartbeats 4000000
namespace Ly
open PySem PySem.Spec PyProof.Rows L2 SX
section
variable {X : Cx} {k j : Nat} {C : Addr} {x m : Str} {sp : Sp} {p pos : Pos}
end
end Ly

set_option maxHeartbeats 4000000
namespace Ly
/-! ### the least number with how many is the least number -/
def lo (x : MC) (n : Nat) : Prop := ∀ y, x = some y → n ≤ y.1
def hi (x : MC) (n : Nat) : Prop := ∃ y, x = some y ∧ y.1 ≤ n
theorem few_tns : ∀ c ∈ BRK, ∀ d ∈ BRK, (few c d).1 = tns c d := by decide
end Ly

set_option maxHeartbeats 4000000
namespace Ly
open PySem PySem.Spec PyProof.Rows L2 SX
/-! ### data in heaps -/
section
variable {K : PySem.W.Frag} {H : Hp} {Q : VK} {x y : V} {d e : PyData}
end
end Ly

set_option maxHeartbeats 4000000
namespace Ly
open PySem PySem.Spec PyProof.Rows L2 SX
/-! ### deeds -/
inductive Dw where
  | put (c : Nat)
  | str
  | trn (c : Nat)
  deriving DecidableEq
abbrev Deed := Nat × Dw
def Dw.w : Dw → List Nat
  | .put _ => [112, 117, 116]
  | .str => [115, 116, 114, 105, 107, 101]
  | .trn _ => [116, 117, 114, 110]
def Dw.s : Dw → List Nat
  | .put c => [c]
  | .str => []
  | .trn c => [c]
def Dw.isPut : Dw → Bool
  | .put _ => true
  | _ => false
def ddV (d : Deed) : List V := [.int (d.1 : Nat), Tx d.2.w, Tx d.2.s]
def putc (p : Nat) (d : Deed) : List Nat := if d.1 = p then (match d.2 with | .put c => [c] | _ => []) else []
def puts (ds : List Deed) (p : Nat) : List Nat := (ds.map (putc p)).flatten
def othD : List Deed → Nat → Option Dw
  | [], _ => none
  | d :: r, p => match othD r p with
    | some w => some w
    | none => if d.1 = p ∧ d.2.isPut = false then some d.2 else none
def mid (o : Option Dw) (x : List Nat) : List Nat := match o with
  | none => x
  | some w => w.s
def piece (l : List Nat) (ds : List Deed) (p : Nat) : List Nat := puts ds p ++ mid (othD ds p) ((l.drop p).take 1)
def app (d : Deed) (s : List Nat) : List Nat := match d.2 with
  | .put c => s.take d.1 ++ [c] ++ s.drop d.1
  | .str => s.eraseIdx d.1
  | .trn c => s.set d.1 c
def behind (l : List Nat) (ds : List Deed) : List Nat := ds.foldr app l
/-! ### lists of deeds in heaps -/
def ddD (d : Deed) : PyData := .tuple [.int (d.1 : Nat), .str (S d.2.w), .str (S d.2.s)]
def ddsD (ds : List Deed) : PyData := .list (ds.map ddD)
structure Dds (H : Hp) (a : Addr) (rs : List Addr) (ds : List Deed) : Prop where
  hd : H a = some (.lst (rs.map V.ref))
  len : rs.length = ds.length
  it : ∀ (k : Nat) (r : Addr) (d : Deed), rs[k]? = some r → ds[k]? = some d → H r = some (.tup (ddV d))
theorem Dds.same {H H' : Hp} {a : Addr} {rs : List Addr} {ds : List Deed} (h : Dds H a rs ds) (s : Same H H') : Dds H' a rs ds := ⟨s _ _ h.hd, h.len, fun k r d h1 h2 => s _ _ (h.it k r d h1 h2)⟩
theorem Dds.but {H H' : Hp} {a p : Addr} {rs : List Addr} {ds : List Deed} {ys : List V} (h : Dds H a rs ds) (s : But p H H') (hp : H p = some (.lst ys)) (hn : a ≠ p) : Dds H' a rs ds := by
  refine ⟨s _ _ hn h.hd, h.len, fun k r d h1 h2 => ?_⟩
  have := h.it k r d h1 h2
  exact s _ _ (fun e => by rw [e, hp] at this; cases this) this
theorem Dds.row {H : Hp} {a : Addr} {rs : List Addr} {ds : List Deed} (h : Dds H a rs ds) {k : Nat} (hk : k < ds.length) : ∃ r d, rs[k]? = some r ∧ ds[k]? = some d ∧ (rs.map V.ref)[k]? = some (V.ref r) ∧ H r = some (.tup (ddV d)) := by
  have e1 : rs[k]? = some (rs[k]'(by rw [h.len]; exact hk)) := List.getElem?_eq_getElem (by rw [h.len]; exact hk)
  have e2 : ds[k]? = some ds[k] := List.getElem?_eq_getElem hk
  exact ⟨_, _, e1, e2, by rw [List.getElem?_map, e1]; rfl, h.it k _ _ e1 e2⟩
theorem Dds.snoc {H H' : Hp} {a t : Addr} {rs : List Addr} {ds : List Deed} {d : Deed} (h : Dds H a rs ds) (ht : H t = some (.tup (ddV d))) (s : But a H H') (e : H' a = some (.lst (rs.map V.ref ++ [.ref t]))) : Dds H' a (rs ++ [t]) (ds ++ [d]) := by
  have ne : ∀ r ys, H r = some (.tup ys) → r ≠ a := fun r ys e q => by rw [q, h.hd] at e; cases e
  refine ⟨by rw [e, List.map_append]; rfl, by simp [h.len], fun k r y q1 q2 => ?_⟩
  by_cases hk : k < rs.length
  · rw [List.getElem?_append_left hk] at q1
    rw [List.getElem?_append_left (by rw [← h.len]; exact hk)] at q2
    have := h.it k r y q1 q2
    exact s _ _ (ne _ _ this) this
  · have hk : k = rs.length := by
      have := (List.getElem?_eq_some_iff.mp q1).1
      simp at this
      omega
    rw [List.getElem?_append_right (by omega), hk, Nat.sub_self] at q1
    rw [List.getElem?_append_right (by rw [← h.len]; omega), hk, h.len, Nat.sub_self] at q2
    have e1 : t = r := Option.some.inj q1
    have e2 : d = y := Option.some.inj q2
    subst e1 e2
    exact s _ _ (ne _ _ ht) ht
/-! ### one sign of a text by a slice -/
section
variable {K : PySem.W.Frag} {σ : L2.St} {H : Hp} {g : TG} {tb : TS} {D : Ends} {a b : Addr} {xs ys : List V}
end
end Ly

set_option maxHeartbeats 4000000
namespace Ly
/-! ### deeds as rows of steps -/
inductive Stp where
  | kp (c : Nat)
  | st (c : Nat)
  | tn (c d : Nat)
  | pt (d : Nat)
  deriving DecidableEq
def Stp.i : Stp → List Nat
  | .kp c => [c]
  | .st c => [c]
  | .tn c _ => [c]
  | .pt _ => []
def Stp.o : Stp → List Nat
  | .kp c => [c]
  | .st _ => []
  | .tn _ d => [d]
  | .pt d => [d]
def Stp.ok : Stp → Prop
  | .kp _ => True
  | .st c => c ∈ BRK
  | .tn c d => c ∈ BRK ∧ d ∈ BRK ∧ d ≠ c
  | .pt d => d ∈ BRK
def inS (α : List Stp) : List Nat := (α.map Stp.i).flatten
def outS (α : List Stp) : List Nat := (α.map Stp.o).flatten
def okS (α : List Stp) : Prop := ∀ s ∈ α, s.ok
theorem inS_cons (s : Stp) (α : List Stp) : inS (s :: α) = s.i ++ inS α := rfl
theorem outS_cons (s : Stp) (α : List Stp) : outS (s :: α) = s.o ++ outS α := rfl
/-! the row of steps of deeds -/
/-! ### deeds that lead back -/
/-! ### rows of old and new signs -/
section
open PySem PySem.Spec PyProof.Rows L2 SX
variable {X : Cx} {tg : Expr}
end
end Ly

set_option maxHeartbeats 4000000
namespace Ly
open PySem PySem.Spec PyProof.Rows L2 SX
/-! ### exceptions that are caught and kept -/
/-- an exception of the class at D that was caught, kept at a -/
def ExK (D a : Addr) : HO := .ext fun h => ∃ (oe : Obj) (vs : Array Value), h.get? a = some oe ∧ Zc (.ref D) none oe ∧ oe.data = .fields vs
theorem exK_ok {P : Program} {w : World} {H : Hp} {h : Heap} {D a : Addr} {oe : Obj} {vs : Array Value} (e : h.get? a = some oe) (z : Zc (.ref D) none oe) (d : oe.data = .fields vs) : ObjOk P w H h a (ExK D a) :=
  ⟨⟨oe, vs, e, z, d⟩, ⟨oe, e⟩, fun _ _ ⟨o, v, q, r⟩ k => ⟨o, v, k o q, r⟩⟩
section
variable {X : Cx} {pins : List (Addr × Obj)} {σ : L2.St} {H : Hp} {s : Shared}
theorem inv_track {a : Addr} {φ : Heap → Prop} (I : Inv X pins σ H s) (na : H a = none) (n0 : X.s_0.heap.get? a = none) (nL : a ≠ X.env.locals) (nC : ∀ x c, X.env.cells.lookup x = some c → c ≠ a) (np : ∀ p ∈ X.pn ++ pins, p.1 ≠ a)
    (new : ObjOk X.prog X.w (upd H a (.ext φ)) s.heap a (.ext φ)) : Inv X pins σ (upd H a (.ext φ)) s := by
  have ne0 : ∀ b o, X.s_0.heap.get? b = some o → b ≠ a := fun b o e z => by rw [z, n0] at e; cases e
  refine ⟨I.ok, I.os, I.bare, ⟨I.base.keep, I.base.slot, fun b o e n hb => ?_, I.base.there, fun b xs e => ?_, fun b o u e => ?_, fun b ps e => ?_⟩, I.loc, I.cell, ?_, fun x c e => ?_, fun p hp => ?_, fun b u e => ?_, I.len⟩
  · rw [upd_ne (ne0 b o e)]
    exact I.base.free b o e n hb
  · have q := I.base.tups b xs e
    rw [upd_ne (ne_of_none q na)]
    exact q
  · have q := I.base.frzs b o u e
    rw [upd_ne (ne_of_none q na)]
    exact q
  · obtain ⟨m, q⟩ := I.base.tbls b ps e
    refine ⟨m, ?_⟩
    rw [upd_ne (ne_of_none q na)]
    exact q
  · rw [upd_ne (Ne.symm nL)]
    exact I.free
  · rw [upd_ne (nC x c e)]
    exact I.freeC x c e
  · obtain ⟨h1, h2, h3⟩ := I.pin p hp
    refine ⟨h1, ?_, h3⟩
    rw [upd_ne (np p hp)]
    exact h2
  · by_cases hb : b = a
    · subst hb
      rw [upd_same] at e
      cases e
      exact new
    · rw [upd_ne hb] at e
      exact (I.hok b u e).stay (fun c v _ q => q) (fun c q => by rw [upd_ne (ne_of_none q na)]; exact q) fun c xs q => by rw [upd_ne (ne_of_none q na)]; exact q
end
/-- what the clause 'except x as n' wishes of an exception of the body that is kept behind the suite: slot i is n's -/
def wKp (K : PySem.W.Frag) (c : Value) (i : Nat) (ts : Addr → Value → Option Addr → TS) (Wout : WX) (D : Ends) : WX := fun cls d σ H =>
  ∃ b, PySem.W.exmOne K cls c = some b ∧ (b = true → ∃ C : Addr, cls = .ref C ∧ d = none ∧ ∀ a, H a = none → ts a cls d { nx := fun σ' H' => ∀ H2, H' a = none → Same H' H2 → H2 a = some (ExK C a) → D.nx (σ'.set i none) H2, rt := D.rt, bk := fun σ' H' => D.bk (σ'.set i none) H', ct := fun σ' H' => D.ct (σ'.set i none) H' } (σ.set i (some (.ref a))) H) ∧
    (b = false → Wout cls d σ H)
section
variable {X : Cx} {x n : Str} {c : Value} {i : Nat} {body suite : List Stmt} {b₀ : Stmt} {np pos pos' : Pos} {tb : WX → TS} {ts : Addr → Value → Option Addr → TS} {Wout : WX}
theorem ps_try_keep (hs : X.stack = X.env :: X.outer) (hf : X.env.frame = some X.env.locals) (hx : X.ex = []) (hN : X.N.Nodup) (hi : X.N[i]? = some n) (hln : X.env.kindOf n = some .local) (hc : Names X x c) (tk : Takes X Wout)
    (hb : ∀ (W : WX) (pn : List (Addr × Obj)) (xe : Value → Shared → Prop), Takes (X.tr pn xe) W → PassesOwn (model X.prog X.w) X.A X.env xe → PSs (X.tr pn xe) body (tb W))
    (hsu : ∀ (a : Addr) (oe : Obj) (cls : Value) (d : Option Addr) (pn : List (Addr × Obj)), Zc cls d oe → (∃ vs, oe.data = .fields vs) → PSs (X.suite a ((a, oe) :: pn)) (b₀ :: suite) (ts a cls d)) :
    PS X (.Try body [.ExceptHandler (some (.Name x np)) (some n) (b₀ :: suite) pos'] [] [] pos) (fun D σ H => tb (wKp X.K c i ts Wout D) D σ H) := by
  refine ⟨fun pins s σ H D I h => ?_⟩
  have ok := I.ok
  have hfr : X.A.frames = some (X.env :: X.outer) := by rw [ok.frames, hs]
  have hloc : Loc X.env.scope n := .inl hln
  refine wpAny_Try_except ?_
  refine wpAny_mono ((hb (wKp X.K c i ts Wout D) (X.pn ++ pins) (fun e s₁ => wpAny (model X.prog X.w) X.A (noteFrame e X.env) (fun _ s₂ => wpAny (model X.prog X.w) X.A (setFlight e none) (fun _ s₃ =>
    wpAny (model X.prog X.w) X.A (handleBy e X.env [.ExceptHandler (some (.Name x np)) (some n) (b₀ :: suite) pos']) (SP X pins D) X.xe s₃) X.xe s₂) X.xe s₁) (fun u s' xx => ?_) PassesOwn.looking).run [] s σ H D (I.toTry _) h) (fun f s1 hsp => ?_) (fun e s1 he => he)
  · obtain ⟨a, B, sI, pins', σ', H', cls, d, rfl, J', nb, up, sky, na, os, ag, b, hb1, hyes, hno⟩ := xx
    have J : Inv X pins σ' H' sI := J'.ofTry ok
    have sky' : Sky B (X.env :: X.outer) a (Zc cls d) X.env.locals s'.heap := by rw [← hs]; exact sky
    show wpAny (model X.prog X.w) X.A (noteFrame (.ref a) X.env) _ _ _
    refine Sky.land Zc.steady hfr hf sky' fun h3 fl3 up3 => ?_
    have J3 : Inv X pins σ' H' { s' with heap := h3 } := J.landed nb fl3.1 (up.trans up3) os ag
    obtain ⟨oe3, vs3, he3, hz3, hd3⟩ := fl3.there
    have notFr : ∀ {h : Heap} {o : Obj} {vs : Array Value}, h.FunFrames B (X.env :: X.outer) → h.get? a = some o → o.data = .fields vs → a ∉ frs (X.env :: X.outer) := fun {h o vs} ff e dd hm => by
      obtain ⟨_, o', e', hnf⟩ := ff.mem hm
      rw [e] at e'; cases e'
      exact hnf _ dd
    have nfr := notFr fl3.2.2.1 he3 hd3
    have nL : a ≠ X.env.locals := fun z => nfr (List.mem_filterMap.mpr ⟨X.env, List.mem_cons_self, by rw [hf, z]⟩)
    have nF : a ∉ X.fs := fun hm => by
      obtain ⟨e, he, q⟩ := List.mem_filterMap.mp hm
      exact nfr (List.mem_filterMap.mpr ⟨e, List.mem_cons_of_mem _ he, q⟩)
    have nI : sI.heap.get? a = none := by
      cases e : sI.heap.get? a with
      | none => rfl
      | some o =>
        have := nb a o e (by rw [hs]; exact nfr)
        rw [fl3.2.1] at this
        cases this
    have n0 : X.s_0.heap.get? a = none := by
      cases e : X.s_0.heap.get? a with
      | none => rfl
      | some o =>
        obtain ⟨o', e'⟩ := J.base.there a o e (by rw [hx]; exact fun z => nomatch z)
        rw [nI] at e'
        cases e'
    have nC : ∀ x c, X.env.cells.lookup x = some c → c ≠ a := fun x c e z => by
      obtain ⟨v, o, ho, _⟩ := J.cell x c e
      rw [z, nI] at ho
      cases ho
    have nP : ∀ p ∈ X.pn ++ pins, p.1 ≠ a := fun p hp z => by
      have := (J.pin p hp).1
      rw [z, nI] at this
      cases this
    have S3 := J3.suite he3 hd3 na nL nF
    refine wpAny_handleBy_cons (codeAny_handlers_test ?_) (by intro q; cases q)
    have LT : PySem.W.Looks (model X.prog X.w) h3 (typeOf (.ref a)) cls := fun A Q E s k q => wpAny_typeOf_ref (k _ _ he3) (by rw [hz3.1]; exact q)
    have LM := PySem.W.exm_one (M := model X.prog X.w) (J3.kIn) LT hb1
    have test : ∀ {Q : Value → Shared → Prop} {E : Value → Shared → Prop}, Q c { s' with heap := h3 } → wpAny (model X.prog X.w) (X.A.mark (some (.ref a))) (eval (.Name x np) X.env) Q E { s' with heap := h3 } := fun {Q E} q => by
      obtain ⟨hg, hdbg, hm | ⟨hm, hv, hnn⟩⟩ := hc
      · exact ld_glob (X := X.suite a ((a, oe3) :: (X.pn ++ pins))) S3 hg hm q hdbg
      · exact ld_blt (X := X.suite a ((a, oe3) :: (X.pn ++ pins))) S3 hg hm hv q hnn hdbg
    refine test (LM.here ?_)
    cases b with
    | true =>
      obtain ⟨C, rfl, rfl, hyes⟩ := hyes rfl
      refine codeAny_handlers_suite_as ?_
      refine HandSPX.lands_againZ fl3 fun h4 fl4 up4 => ?_
      have J4 : Inv X pins σ' H' { s' with heap := h4 } := J.landed nb fl4.1 ((up.trans up3).trans up4) os ag
      obtain ⟨oe4, vs4, he4, hz4, hd4⟩ := fl4.there
      have S4 := J4.suite he4 hd4 na nL nF
      refine store_ok (X := X.suite a ((a, oe4) :: (X.pn ++ pins))) (v := .ref a) S4 hN hi hloc rfl (fun s5 S5 => ?_) (.inr hln)
      refine wpAny_mono ((hsu a oe4 (.ref C) none (X.pn ++ pins) hz4 ⟨_, hd4⟩).run [] s5 _ H' _ S5 (hyes a na)) (fun f s6 hsp => ?_) (fun _ _ z => False.elim z)
      have end_ : ∀ {σ6 : L2.St} {H6 : Hp} {Q : Shared → Prop}, Inv (X.suite a ((a, oe4) :: (X.pn ++ pins))) [] σ6 H6 s6 → (∀ s7, Inv X pins (σ6.set i none) H6 s7 → Q s7) →
          wpAny (model X.prog X.w) X.A (do bindName X.env n .none; unbindBehindTheSuite X.env n pos') (fun _ s7 => Q s7) X.xe s6 := fun {σ6 H6 Q} S6 hq => gone_ok (S6.unsuite ok) hN hi hln hq
      cases f with
      | next =>
        obtain ⟨σ6, H6, S6, q6⟩ := hsp
        have K6 : Inv X ((a, oe4) :: pins) σ6 H6 s6 := ⟨ok, S6.os, S6.bare, S6.base, S6.loc, S6.cell, S6.free, S6.freeC, fun p hp => by
          refine S6.pin p (List.mem_append_left _ ?_)
          show p ∈ (a, oe4) :: (X.pn ++ pins)
          rcases List.mem_append.mp hp with hp | hp
          · exact List.mem_cons_of_mem _ (List.mem_append_left _ hp)
          · rcases List.mem_cons.mp hp with hp | hp
            · rw [hp]; exact List.mem_cons_self ..
            · exact List.mem_cons_of_mem _ (List.mem_append_right _ hp), S6.hok, S6.len⟩
        refine gone_ok K6 hN hi hln fun s7 J7 => ?_
        obtain ⟨p1, p2, _⟩ := J7.pin (a, oe4) (List.mem_append_right _ (List.mem_cons_self ..))
        have J7' : Inv X pins (σ6.set i none) H6 s7 := ⟨J7.ok, J7.os, J7.bare, J7.base, J7.loc, J7.cell, J7.free, J7.freeC, fun p hp => J7.pin p (by
          rcases List.mem_append.mp hp with hp | hp
          · exact List.mem_append_left _ hp
          · exact List.mem_append_right _ (List.mem_cons_of_mem _ hp)), J7.hok, J7.len⟩
        exact ⟨_, _, inv_track J7' p2 n0 nL nC nP (exK_ok p1 hz4 hd4), q6 _ p2 (Same.new p2) upd_same⟩
      | brk =>
        obtain ⟨σ6, H6, S6, q6⟩ := hsp
        exact end_ S6 fun s7 J7 => ⟨_, _, J7, q6⟩
      | cont =>
        obtain ⟨σ6, H6, S6, q6⟩ := hsp
        exact end_ S6 fun s7 J7 => ⟨_, _, J7, q6⟩
      | ret u =>
        obtain ⟨v6, σ6, H6, S6, r6, q6⟩ := hsp
        exact end_ S6 fun s7 J7 => ⟨_, _, _, J7, r6, q6⟩
    | false =>
      show wpAny _ X.A (handleBy (.ref a) X.env []) _ _ _
      refine wpAny_handleBy_nil ?_
      obtain ⟨k1, k2, k3, oe, vs, T, oT, ts', he, hz, hd, h1, hr⟩ := id fl3
      unfold PySem.passOn
      refine wpAny_bind (wpAny_field he hd h1 ?_)
      rw [if_neg (show ¬ ((Value.ref T == Value.none) = true) from by simp)]
      have fin : wpAny (model X.prog X.w) X.A (setFlight (.ref a) X.env.frame) (fun _ s4 => wpAny (model X.prog X.w) X.A (throw (.ref a) : Sem Flow) (SP X pins D) X.xe s4) X.xe { s' with heap := h3 } := by
        rw [hf]
        refine HandSPX.setFlight_upZ fl3 fun h4 hh4 up4 => wpAny_throw (tk _ _ ?_)
        exact ⟨a, B, sI, pins, σ', H', cls, d, rfl, J, nb, (up.trans up3).trans up4, .inr (.inr (by rw [hs]; exact hh4)), na, os, ag, hno rfl⟩
      first
        | exact wpAny_bind (wpAny_pure (wpAny_bind fin))
        | exact wpAny_bind fin
  · cases f with
    | next =>
      obtain ⟨σ', H', J', q⟩ := hsp
      exact wpAny_execs_nil ⟨σ', H', J'.ofTry ok, q⟩
    | brk =>
      obtain ⟨σ', H', J', q⟩ := hsp
      exact ⟨σ', H', J'.ofTry ok, q⟩
    | cont =>
      obtain ⟨σ', H', J', q⟩ := hsp
      exact ⟨σ', H', J'.ofTry ok, q⟩
    | ret u =>
      obtain ⟨v, σ', H', J', r, q⟩ := hsp
      exact ⟨v, σ', H', J'.ofTry ok, r, q⟩
end
/-! isinstance of a kept exception -/
def rIsK (K : PySem.W.Frag) : List V → Hp → VK → Prop := fun xs H Q => ∃ (a D : Addr) (c : V) (u : Value) (b : Bool), xs = [.ref a, c] ∧ ClsV c u ∧ H a = some (ExK D a) ∧ ExcC K D ∧ PySem.W.kitOne K (.ref D) u = some b ∧ Q (.bl b) H
def rIsKT (K : PySem.W.Frag) : List V → Hp → VK → Prop := fun xs H Q => ∃ (a D tp : Addr) (cs : List V) (us : List Value) (b : Bool), xs = [.ref a, .ref tp] ∧ H tp = some (.tup cs) ∧ Paired ClsV cs us ∧ H a = some (ExK D a) ∧ ExcC K D ∧ PySem.W.kitAny K (.ref D) us = some b ∧ Q (.bl b) H
section
variable {X : Cx}
theorem inst_of {pins : List (Addr × Obj)} {σ : L2.St} {H : Hp} {s : Shared} {a D : Addr} (I : Inv X pins σ H s) (h : H a = some (ExK D a)) : ∃ oe, PySem.W.InstAt s.heap a oe D none := by
  obtain ⟨⟨oe, vs, h1, h2, h3⟩, _⟩ := (show ObjOk X.prog X.w H s.heap a (ExK D a) from I.hok a _ h)
  refine ⟨oe, ?_⟩
  obtain ⟨oc, od, oda, osl⟩ := oe
  obtain ⟨z1, z2⟩ := h2
  dsimp only at z1 z2 h3
  subst z1 z2 h3
  exact ⟨h1, rfl, rfl, trivial⟩
theorem call_isK : CallR X (.builtin "isinstance") (rIsK X.K) := by
  intro pins s σ H xs us Q I r h
  obtain ⟨a, D, c, u, b, rfl, k, ha, C, e, q⟩ := h
  obtain ⟨u1, u2, rfl, r1, r2⟩ := vals2 r
  have e2 := k.eq r2
  subst e2
  cases (show u1 = Value.ref a from r1)
  obtain ⟨oe, J⟩ := inst_of I ha
  exact PySem.W.kia_one (PySem.W.handS_kitx_exc C.hg C.hk C.hs C.hd C.ha C.hn C.ht C.hm) I.kIn J e (fun z => nomatch z) fun tk => ⟨.bl b, H, I.tok tk, rfl, q⟩
theorem call_isKT : CallR X (.builtin "isinstance") (rIsKT X.K) := by
  intro pins s σ H xs us Q I r h
  obtain ⟨a, D, tp, cs, ws, b, rfl, hT, k, ha, C, e, q⟩ := h
  obtain ⟨u1, u2, rfl, r1, r2⟩ := vals2 r
  cases (show u1 = Value.ref a from r1)
  cases (show u2 = Value.ref tp from r2)
  obtain ⟨oe, J⟩ := inst_of I ha
  obtain ⟨_, its, rv, o, h1, h2, n, h3⟩ := (show ObjOk X.prog X.w H s.heap tp (.tup cs) from I.hok tp _ hT)
  have e3 := ClsV.all k rv
  subst e3
  obtain ⟨oc, od, dt, sl⟩ := o
  simp only at h2 h3
  subst h2 h3
  exact PySem.W.kia_tup (PySem.W.handS_kitx_exc C.hg C.hk C.hs C.hd C.ha C.hn C.ht C.hm) I.kIn J h1 e (fun z => nomatch z) fun tk => ⟨.bl b, H, I.tok tk, rfl, q⟩
end
/-! defs that raise -/
structure CalX (P : Program) (w : World) (K : PySem.W.Frag) (mg : Str → Option Value) (base : Heap) (k : Nat) (x : Str) (sp : Sp) : Prop where
  ex : ∃ (f : Addr) (fd : FuncData) (ps : List Str), FnOk P w K mg base (L2.CX P w) k f fd ps sp ∧ mg x = some (.ref f) ∧ PySem.W.keepIn K (.ref f) = true ∧ Binds K fd ps []
section
variable {P : Program} {w : World} {K : PySem.W.Frag} {mg : Str → Option Value} {base : Heap}
theorem calDX {x : Str} {st : Stmt} {N ps : List Str} {k : Nat} {sp : Sp} (D : DefAt K mg x st ps) (S : FnScope N ps (defScope st)) (len : ∀ vs H Q E, sp vs H Q E → vs.length = ps.length)
    (hbody : ∀ (f : Addr) (cdv : Value) (A : Around) (outer : List Env) (s : Shared) (H : Hp) (vs : List V) (Q : VK) (E : XK), Room k (A.deeper (envOfC x (defScope st) s.heap.objs.size f cdv)) → sp vs H Q E →
      ∃ t, PSs (cxOf (L2.CX P w) P w K mg base N x (defScope st) f cdv A outer s H E) (defBody st) t ∧ t { nx := fun _ H' => Q .non H', rt := Q } (start N vs) H) : CalX P w K mg base (k + 1) x sp := by
  obtain ⟨f, fd, F, hm, b⟩ := D
  exact ⟨f, fd, ps, F.ok S len (hbody f), hm, F.kp, b⟩
end
def tOwnX (sp : Sp) (W : WX) (t : TA) : TE := fun σ H Q => t σ H fun vs H1 => sp vs H1 Q (fun cls d H2 => W cls d σ H2)
def tMetX (C : Addr) (m : Str) (sp : Sp) (W : WX) (ta : TE) (t : TA) : TE := fun σ H Q => ta σ H fun x H1 => rMetO C m x H1 (t σ H1 fun vs H2 => sp (x :: vs) H2 Q (fun cls d H2 => W cls d σ H2))
section
variable {X : Cx} {k j : Nat} {C : Addr} {x m : Str} {sp : Sp} {p pos apos : Pos} {e o : Expr} {es : List Expr} {ta : TE} {t : TA} {W : WX}
theorem pe_ownX (c : CalX X.prog X.w X.K X.mg X.base k x sp) (hr : Room j X.A) (hk : k ≤ j) (hg : Gl X x) (tk : Takes X W) (ha : PA X (e :: es) t)
    (hdb : (x == ("__debug__" : Str)) = false := by decide) (he : starEach (e :: es) X.env = (false, eval e X.env) :: starEach es X.env := by rfl) (hpl : (backTo pos (starEach es X.env)).any (·.1) = false := by rfl) :
    PE X (.Call (.Name x p) (e :: es) [] pos) (tOwnX sp W t) := by
  obtain ⟨f, fd, ps, F, hm, hkp, b⟩ := c.ex
  exact pe_callS (E := WE W) F (hr.mono hk) hg hm hkp b (fun σ => passAt tk σ) ha hdb he hpl
end
/-! what is known of an error's class -/
structure ErrF (K : PySem.W.Frag) (C M : Addr) : Prop where
  x : PySem.W.excIn K C [.type "ValueError", .type "Exception", .type "BaseException", .type "object"] "ValueError.__new__" = true
  kp : PySem.W.keepIn K (.ref C) = true
  sb : PySem.W.subIn K (.ref C) (.type "BaseException") = some true
  ty : PySem.W.typeIn K (.ref C) = some (.type "type")
  ec : ExcC K C
  em : PySem.W.exmOne K (.ref C) (.ref M) = some true
def errB (K : PySem.W.Frag) (C M : Addr) : Bool := PySem.W.excIn K C [.type "ValueError", .type "Exception", .type "BaseException", .type "object"] "ValueError.__new__" && (PySem.W.keepIn K (.ref C) && (PySem.W.subIn K (.ref C) (.type "BaseException") == some true && (PySem.W.typeIn K (.ref C) == some (.type "type") &&
  (PySem.W.findIn K (.ref C) "__getattribute__" == some (some (.builtin "BaseException.__getattribute__")) && (PySem.W.findIn K (.ref C) "__getattr__" == some none && (PySem.W.hasDictIn K C && (PySem.W.findIn K (.ref C) "__class__" == some (some (.builtin "object.__class__")) &&
  (PySem.W.specialIn K (.builtin "object.__class__") "__get__" == some (some (.builtin "getset_descriptor.__get__")) && (PySem.W.takesIn K (.builtin "object.__class__") == some true && (PySem.W.mroIn K C (.type "object") == some true && PySem.W.exmOne K (.ref C) (.ref M) == some true))))))))))
theorem errB_ok {K : PySem.W.Frag} {C M : Addr} (h : errB K C M = true) : ErrF K C M := by
  unfold errB at h
  simp only [Bool.and_eq_true, beq_iff_eq] at h
  obtain ⟨h1, h2, h3, h4, h5, h6, h7, h8, h9, h10, h11, h12⟩ := h
  exact ⟨h1, h2, h3, h4, ⟨h5, h6, h3, h7, h8, h9, h10, h11⟩, h12⟩
theorem all_at {bs : List Bool} (h : bs.all id = true) {i : Nat} {b : Bool} (e : bs[i]? = some b) : b = true := List.all_eq_true.mp h b (List.mem_of_getElem? e)
/-! readings -/
section
variable {K : PySem.W.Frag} {H : Hp} {Q : VK} {a D : Addr}
theorem g_isK {c : V} {u : Value} {b : Bool} (k : ClsV c u) (h : H a = some (ExK D a)) (C : ExcC K D) (e : PySem.W.kitOne K (.ref D) u = some b) (q : Q (.bl b) H) : rIsK K [.ref a, c] H Q := ⟨a, D, c, u, b, rfl, k, h, C, e, q⟩
theorem g_isKT {tp : Addr} {cs : List V} {us : List Value} {b : Bool} (ht : H tp = some (.tup cs)) (k : Paired ClsV cs us) (h : H a = some (ExK D a)) (C : ExcC K D) (e : PySem.W.kitAny K (.ref D) us = some b) (q : Q (.bl b) H) : rIsKT K [.ref a, .ref tp] H Q := ⟨a, D, tp, cs, us, b, rfl, ht, k, h, C, e, q⟩
end
end Ly

set_option maxHeartbeats 0
namespace K11
open PySem PySem.Spec PyProof.Rows L2 SX Ly
def topS (i : Nat) : Stmt := PySem.Challenge.pw_nestmend_k11_outlines_of_none.main.body.getD i (.Pass ⟨0, 0, 0, 0⟩)
abbrev s_lines_of : Stmt := topS 12
abbrev N_lines_of : List Str := ["nest", "deep", "found", "item"]
theorem st_lines_of (v0 v1 : V) : L2.start N_lines_of [v0, v1] = [some v0, some v1, none, none] := rfl
theorem sc_lines_of : FnScope N_lines_of ["nest", "deep"] (defScope s_lines_of) := ⟨rfl, rfl, rfl, by decide +kernel, rfl, by decide +kernel, by decide +kernel⟩
abbrev s_outline : Stmt := topS 13
abbrev N_outline : List Str := ["nest"]
theorem st_outline (v0 : V) : L2.start N_outline [v0] = [some v0] := rfl
theorem sc_outline : FnScope N_outline ["nest"] (defScope s_outline) := ⟨rfl, rfl, rfl, by decide +kernel, rfl, by decide +kernel, by decide +kernel⟩
abbrev s_read_outline : Stmt := topS 14
abbrev N_read_outline : List Str := ["text", "around", "line", "deep", "sign", "inner"]
theorem st_read_outline (v0 : V) : L2.start N_read_outline [v0] = [some v0, none, none, none, none, none] := rfl
theorem sc_read_outline : FnScope N_read_outline ["text"] (defScope s_read_outline) := ⟨rfl, rfl, rfl, by decide +kernel, rfl, by decide +kernel, by decide +kernel⟩
abbrev s_law_mixed : Stmt := topS 16
abbrev N_law_mixed : List Str := ["cell", "k", "number"]
theorem st_law_mixed (v0 v1 : V) : L2.start N_law_mixed [v0, v1] = [some v0, some v1, none] := rfl
theorem sc_law_mixed : FnScope N_law_mixed ["cell", "k"] (defScope s_law_mixed) := ⟨rfl, rfl, rfl, by decide +kernel, rfl, by decide +kernel, by decide +kernel⟩
abbrev s_law_pot : Stmt := topS 17
abbrev N_law_pot : List Str := ["cell"]
theorem st_law_pot (v0 : V) : L2.start N_law_pot [v0] = [some v0] := rfl
theorem sc_law_pot : FnScope N_law_pot ["cell"] (defScope s_law_pot) := ⟨rfl, rfl, rfl, by decide +kernel, rfl, by decide +kernel, by decide +kernel⟩
abbrev s_law_take : Stmt := topS 18
abbrev N_law_take : List Str := ["pot", "many", "told"]
theorem st_law_take (v0 v1 : V) : L2.start N_law_take [v0, v1] = [some v0, some v1, none] := rfl
theorem sc_law_take : FnScope N_law_take ["pot", "many"] (defScope s_law_take) := ⟨rfl, rfl, rfl, by decide +kernel, rfl, by decide +kernel, by decide +kernel⟩
abbrev s_law_sign : Stmt := topS 19
abbrev s_law_clean : Stmt := topS 20
abbrev N_law_clean : List Str := ["pot", "most", "text", "waiting", "shape", "left", "way", "k"]
theorem st_law_clean (v0 v1 : V) : L2.start N_law_clean [v0, v1] = [some v0, some v1, none, none, none, none, none, none] := rfl
theorem sc_law_clean : FnScope N_law_clean ["pot", "most"] (defScope s_law_clean) := ⟨rfl, rfl, rfl, by decide +kernel, rfl, by decide +kernel, by decide +kernel⟩
abbrev s_law_bent : Stmt := topS 21
abbrev s_law_long : Stmt := topS 22
abbrev N_law_long : List Str := ["pot", "k"]
theorem st_law_long (v0 v1 : V) : L2.start N_law_long [v0, v1] = [some v0, some v1] := rfl
theorem sc_law_long : FnScope N_law_long ["pot", "k"] (defScope s_law_long) := ⟨rfl, rfl, rfl, by decide +kernel, rfl, by decide +kernel, by decide +kernel⟩
abbrev s_law_text : Stmt := topS 23
abbrev s_law_outline : Stmt := topS 24
abbrev N_law_outline : List Str := ["text", "lines", "deep", "sign"]
theorem st_law_outline (v0 : V) : L2.start N_law_outline [v0] = [some v0, none, none, none] := rfl
theorem sc_law_outline : FnScope N_law_outline ["text"] (defScope s_law_outline) := ⟨rfl, rfl, rfl, by decide +kernel, rfl, by decide +kernel, by decide +kernel⟩
abbrev s_law_which : Stmt := topS 25
abbrev N_law_which : List Str := ["caught"]
theorem st_law_which (v0 : V) : L2.start N_law_which [v0] = [some v0] := rfl
theorem sc_law_which : FnScope N_law_which ["caught"] (defScope s_law_which) := ⟨rfl, rfl, rfl, by decide +kernel, rfl, by decide +kernel, by decide +kernel⟩
abbrev s_law_same : Stmt := topS 26
abbrev N_law_same : List Str := ["found", "due", "k"]
theorem st_law_same (v0 v1 : V) : L2.start N_law_same [v0, v1] = [some v0, some v1, none] := rfl
theorem sc_law_same : FnScope N_law_same ["found", "due"] (defScope s_law_same) := ⟨rfl, rfl, rfl, by decide +kernel, rfl, by decide +kernel, by decide +kernel⟩
abbrev s_law_read : Stmt := topS 27
abbrev N_law_read : List Str := ["text", "around", "line", "sign", "deep", "inner"]
theorem st_law_read (v0 : V) : L2.start N_law_read [v0] = [some v0, none, none, none, none, none] := rfl
theorem sc_law_read : FnScope N_law_read ["text"] (defScope s_law_read) := ⟨rfl, rfl, rfl, by decide +kernel, rfl, by decide +kernel, by decide +kernel⟩
abbrev s_law_any_sign : Stmt := topS 28
abbrev N_law_any_sign : List Str := ["pot", "signs"]
theorem st_law_any_sign (v0 : V) : L2.start N_law_any_sign [v0] = [some v0, none] := rfl
theorem sc_law_any_sign : FnScope N_law_any_sign ["pot"] (defScope s_law_any_sign) := ⟨rfl, rfl, rfl, by decide +kernel, rfl, by decide +kernel, by decide +kernel⟩
abbrev s_law_bent_line : Stmt := topS 29
abbrev N_law_bent_line : List Str := ["pot", "text", "at", "some", "sign", "way", "lines", "j", "to"]
theorem st_law_bent_line (v0 v1 : V) : L2.start N_law_bent_line [v0, v1] = [some v0, some v1, none, none, none, none, none, none, none] := rfl
theorem sc_law_bent_line : FnScope N_law_bent_line ["pot", "text"] (defScope s_law_bent_line) := ⟨rfl, rfl, rfl, by decide +kernel, rfl, by decide +kernel, by decide +kernel⟩
abbrev s_law_right : Stmt := topS 30
abbrev N_law_right : List Str := ["text", "due", "caught", "found", "e"]
theorem st_law_right (v0 : V) : L2.start N_law_right [v0] = [some v0, none, none, none, none] := rfl
theorem sc_law_right : FnScope N_law_right ["text"] (defScope s_law_right) := ⟨rfl, rfl, rfl, by decide +kernel, rfl, by decide +kernel, by decide +kernel⟩
abbrev s_law : Stmt := topS 31
abbrev N_law : List Str := ["script", "k", "cell", "pot", "text", "turn", "steps", "lines", "some"]
theorem st_law (v0 : V) : L2.start N_law [v0] = [some v0, none, none, none, none, none, none, none, none] := rfl
theorem sc_law : FnScope N_law ["script"] (defScope s_law) := ⟨rfl, rfl, rfl, by decide +kernel, rfl, by decide +kernel, by decide +kernel⟩

namespace Top
/-! ### the head -/
def d_lines_of : He.DefD := ⟨("lines_of", none), "lines_of", "lines_of", defArgs s_lines_of, defBody s_lines_of, defScope s_lines_of, [], []⟩
def d_outline : He.DefD := ⟨("outline", none), "outline", "outline", defArgs s_outline, defBody s_outline, defScope s_outline, [], []⟩
def d_read_outline : He.DefD := ⟨("read_outline", none), "read_outline", "read_outline", defArgs s_read_outline, defBody s_read_outline, defScope s_read_outline, [], []⟩
def d_law_mixed : He.DefD := ⟨("_law_mixed", none), "_law_mixed", "_law_mixed", defArgs s_law_mixed, defBody s_law_mixed, defScope s_law_mixed, [], []⟩
def d_law_pot : He.DefD := ⟨("_law_pot", none), "_law_pot", "_law_pot", defArgs s_law_pot, defBody s_law_pot, defScope s_law_pot, [], []⟩
def d_law_take : He.DefD := ⟨("_law_take", none), "_law_take", "_law_take", defArgs s_law_take, defBody s_law_take, defScope s_law_take, [], []⟩
def d_law_sign : He.DefD := ⟨("_law_sign", none), "_law_sign", "_law_sign", defArgs s_law_sign, defBody s_law_sign, defScope s_law_sign, [], []⟩
def d_law_clean : He.DefD := ⟨("_law_clean", none), "_law_clean", "_law_clean", defArgs s_law_clean, defBody s_law_clean, defScope s_law_clean, [], []⟩
def d_law_bent : He.DefD := ⟨("_law_bent", none), "_law_bent", "_law_bent", defArgs s_law_bent, defBody s_law_bent, defScope s_law_bent, [], []⟩
def d_law_long : He.DefD := ⟨("_law_long", none), "_law_long", "_law_long", defArgs s_law_long, defBody s_law_long, defScope s_law_long, [], []⟩
def d_law_text : He.DefD := ⟨("_law_text", none), "_law_text", "_law_text", defArgs s_law_text, defBody s_law_text, defScope s_law_text, [], []⟩
def d_law_outline : He.DefD := ⟨("_law_outline", none), "_law_outline", "_law_outline", defArgs s_law_outline, defBody s_law_outline, defScope s_law_outline, [], []⟩
def d_law_which : He.DefD := ⟨("_law_which", none), "_law_which", "_law_which", defArgs s_law_which, defBody s_law_which, defScope s_law_which, [], []⟩
def d_law_same : He.DefD := ⟨("_law_same", none), "_law_same", "_law_same", defArgs s_law_same, defBody s_law_same, defScope s_law_same, [], []⟩
def d_law_read : He.DefD := ⟨("_law_read", none), "_law_read", "_law_read", defArgs s_law_read, defBody s_law_read, defScope s_law_read, [], []⟩
def d_law_any_sign : He.DefD := ⟨("_law_any_sign", none), "_law_any_sign", "_law_any_sign", defArgs s_law_any_sign, defBody s_law_any_sign, defScope s_law_any_sign, [], []⟩
def d_law_bent_line : He.DefD := ⟨("_law_bent_line", none), "_law_bent_line", "_law_bent_line", defArgs s_law_bent_line, defBody s_law_bent_line, defScope s_law_bent_line, [], []⟩
def d_law_right : He.DefD := ⟨("_law_right", none), "_law_right", "_law_right", defArgs s_law_right, defBody s_law_right, defScope s_law_right, [], []⟩
def d_law : He.DefD := ⟨("law", none), "law", "law", defArgs s_law, defBody s_law, defScope s_law, [], []⟩
def fn : List He.DefD := [d_lines_of, d_outline, d_read_outline, d_law_mixed, d_law_pot, d_law_take, d_law_sign, d_law_clean, d_law_bent, d_law_long, d_law_text, d_law_outline, d_law_which, d_law_same, d_law_read, d_law_any_sign, d_law_bent_line, d_law_right, d_law]
def exL (K : PySem.W.Frag) : List Bool := (errB K (He.ga K "NoNest") (He.ga K "MendError")) :: (PySem.W.kitOne K (.ref (He.ga K "NoNest")) (.type "ValueError") == some true) :: (PySem.W.kitOne K (.ref (He.ga K "NoNest")) (.ref (He.ga K "NoNest")) == some true) :: (PySem.W.kitOne K (.ref (He.ga K "NoNest")) (.ref (He.ga K "NoDeeds")) == some false) :: (PySem.W.kitOne K (.ref (He.ga K "NoNest")) (.ref (He.ga K "NoNumber")) == some false) :: (PySem.W.kitOne K (.ref (He.ga K "NoNest")) (.ref (He.ga K "NoSign")) == some false) :: (PySem.W.kitOne K (.ref (He.ga K "NoNest")) (.ref (He.ga K "NoWriting")) == some false) :: (PySem.W.kitOne K (.ref (He.ga K "NoNest")) (.ref (He.ga K "NoRow")) == some false) :: (errB K (He.ga K "NoDeeds") (He.ga K "MendError")) :: (PySem.W.kitOne K (.ref (He.ga K "NoDeeds")) (.type "ValueError") == some true) :: (PySem.W.kitOne K (.ref (He.ga K "NoDeeds")) (.ref (He.ga K "NoNest")) == some false) :: (PySem.W.kitOne K (.ref (He.ga K "NoDeeds")) (.ref (He.ga K "NoDeeds")) == some true) :: (PySem.W.kitOne K (.ref (He.ga K "NoDeeds")) (.ref (He.ga K "NoNumber")) == some false) :: (PySem.W.kitOne K (.ref (He.ga K "NoDeeds")) (.ref (He.ga K "NoSign")) == some false) :: (PySem.W.kitOne K (.ref (He.ga K "NoDeeds")) (.ref (He.ga K "NoWriting")) == some false) :: (PySem.W.kitOne K (.ref (He.ga K "NoDeeds")) (.ref (He.ga K "NoRow")) == some false) :: (errB K (He.ga K "NoNumber") (He.ga K "MendError")) :: (PySem.W.kitOne K (.ref (He.ga K "NoNumber")) (.type "ValueError") == some true) :: (PySem.W.kitOne K (.ref (He.ga K "NoNumber")) (.ref (He.ga K "NoNest")) == some false) :: (PySem.W.kitOne K (.ref (He.ga K "NoNumber")) (.ref (He.ga K "NoDeeds")) == some false) :: (PySem.W.kitOne K (.ref (He.ga K "NoNumber")) (.ref (He.ga K "NoNumber")) == some true) :: (PySem.W.kitOne K (.ref (He.ga K "NoNumber")) (.ref (He.ga K "NoSign")) == some false) :: (PySem.W.kitOne K (.ref (He.ga K "NoNumber")) (.ref (He.ga K "NoWriting")) == some false) :: (PySem.W.kitOne K (.ref (He.ga K "NoNumber")) (.ref (He.ga K "NoRow")) == some false) :: (errB K (He.ga K "NoSign") (He.ga K "MendError")) :: (PySem.W.kitOne K (.ref (He.ga K "NoSign")) (.type "ValueError") == some true) :: (PySem.W.kitOne K (.ref (He.ga K "NoSign")) (.ref (He.ga K "NoNest")) == some false) :: (PySem.W.kitOne K (.ref (He.ga K "NoSign")) (.ref (He.ga K "NoDeeds")) == some false) :: (PySem.W.kitOne K (.ref (He.ga K "NoSign")) (.ref (He.ga K "NoNumber")) == some false) :: (PySem.W.kitOne K (.ref (He.ga K "NoSign")) (.ref (He.ga K "NoSign")) == some true) :: (PySem.W.kitOne K (.ref (He.ga K "NoSign")) (.ref (He.ga K "NoWriting")) == some false) :: (PySem.W.kitOne K (.ref (He.ga K "NoSign")) (.ref (He.ga K "NoRow")) == some false) :: (errB K (He.ga K "NoWriting") (He.ga K "MendError")) :: (PySem.W.kitOne K (.ref (He.ga K "NoWriting")) (.type "ValueError") == some true) :: (PySem.W.kitOne K (.ref (He.ga K "NoWriting")) (.ref (He.ga K "NoNest")) == some false) :: (PySem.W.kitOne K (.ref (He.ga K "NoWriting")) (.ref (He.ga K "NoDeeds")) == some false) :: (PySem.W.kitOne K (.ref (He.ga K "NoWriting")) (.ref (He.ga K "NoNumber")) == some false) :: (PySem.W.kitOne K (.ref (He.ga K "NoWriting")) (.ref (He.ga K "NoSign")) == some false) :: (PySem.W.kitOne K (.ref (He.ga K "NoWriting")) (.ref (He.ga K "NoWriting")) == some true) :: (PySem.W.kitOne K (.ref (He.ga K "NoWriting")) (.ref (He.ga K "NoRow")) == some false) :: (errB K (He.ga K "NoRow") (He.ga K "MendError")) :: (PySem.W.kitOne K (.ref (He.ga K "NoRow")) (.type "ValueError") == some true) :: (PySem.W.kitOne K (.ref (He.ga K "NoRow")) (.ref (He.ga K "NoNest")) == some false) :: (PySem.W.kitOne K (.ref (He.ga K "NoRow")) (.ref (He.ga K "NoDeeds")) == some false) :: (PySem.W.kitOne K (.ref (He.ga K "NoRow")) (.ref (He.ga K "NoNumber")) == some false) :: (PySem.W.kitOne K (.ref (He.ga K "NoRow")) (.ref (He.ga K "NoSign")) == some false) :: (PySem.W.kitOne K (.ref (He.ga K "NoRow")) (.ref (He.ga K "NoWriting")) == some false) :: (PySem.W.kitOne K (.ref (He.ga K "NoRow")) (.ref (He.ga K "NoRow")) == some true) :: []
def ex (K : PySem.W.Frag) : Bool := (exL K).all id
def fa : List He.Fa := [.glo "lines_of", .glo "outline", .glo "read_outline", .glo "_law_mixed", .glo "_law_pot", .glo "_law_take", .glo "_law_sign", .glo "_law_clean", .glo "_law_bent", .glo "_law_long", .glo "_law_text", .glo "_law_outline", .glo "_law_which", .glo "_law_same", .glo "_law_read", .glo "_law_any_sign", .glo "_law_bent_line", .glo "_law_right", .glo "law", .str "LETTERS" (S LET), .str "OPENING" (S OPN), .int "DEEPEST" 60, .free "len", .free "int", .free "str", .free "range", .free "enumerate", .free "isinstance", .free "list", .free "tuple", .free "bool", .free "min", .free "ValueError", .glo "MendError", .glo "NoNest", .glo "NoDeeds", .glo "NoNumber", .glo "NoSign", .glo "NoWriting", .glo "NoRow"]
abbrev R : PySem.W.OpenRow := PySem.W.OpenLaw.row PySem.Challenge.rw_nestmend_k11_outlines_of_none
abbrev hk : PySem.W.Hook := hookE 4 fa fn ex
def ob (s : PySem.W.SharedT) : AlE := obsEG 4 fa fn ex (HandSHeadRun.getT s)
theorem ob_eq (s : PySem.W.SharedT) : ob s = hk.obs s.abs := obsEG_eq (HandSHeadRun.getT_eq s)
def loose : List Str := ("MendError" : Str) :: ("NoNest" : Str) :: ("NoDeeds" : Str) :: ("NoNumber" : Str) :: ("NoSign" : Str) :: ("NoWriting" : Str) :: ("NoRow" : Str) :: ("LETTERS" : Str) :: ("OPENING" : Str) :: ("DEEPEST" : Str) :: ("lines_of" : Str) :: ("outline" : Str) :: ("read_outline" : Str) :: ("_law_mixed" : Str) :: ("_law_pot" : Str) :: ("_law_take" : Str) :: ("_law_sign" : Str) :: ("_law_clean" : Str) :: ("_law_bent" : Str) :: ("_law_long" : Str) :: ("_law_text" : Str) :: ("_law_outline" : Str) :: ("_law_which" : Str) :: ("_law_same" : Str) :: ("_law_read" : Str) :: ("_law_any_sign" : Str) :: ("_law_bent_line" : Str) :: ("_law_right" : Str) :: []
theorem run (w : World) : HandSHeadRun.RunEq R (PySem.W.view R.prog [31]) hk ob 6000 loose w := by
  intro os
  kernel_rfl

end Top
end K11

set_option maxHeartbeats 4000000
namespace Ly
open PySem PySem.Spec PyProof.Rows L2 SX
/-! ### texts with their tokens: for y in [texts]: x = x.replace(y, z) -/
section
variable {X : Cx} {pins : List (Addr × Obj)} {σ : L2.St} {H : Hp} {s : Shared}
end
section
variable {X : Cx} {ik ip : Nat} {kx px z : Str} {y1 y2 y3 y4 : Str}
end
end Ly

set_option maxHeartbeats 4000000
namespace Ly
open PySem PySem.Spec PyProof.Rows L2 SX
section
variable {X : Cx} {ik ip : Nat} {kx px z : Str} {y1 y2 y3 y4 : Str}
end
end Ly

set_option maxHeartbeats 4000000
namespace Ly
/-! ### from piece to piece -/
/-! ### sums -/
end Ly

set_option maxHeartbeats 4000000
namespace Ly
open PySem PySem.Spec PyProof.Rows L2 SX
/-! ### promises that stand where nothing is being shown: repr -/
section
variable {P : Program} {w : World} {K : PySem.W.Frag} {mg : Str → Option Value} {base : Heap}
end
/-! ### the law's call -/
section
variable {P : Program} {w : World} {K : PySem.W.Frag} {mg mb : Str → Option Value} {k : Nat} {fa a : Addr} {fd : FuncData} {x : Str} {sp : Sp} {s₁ : Shared} {vs : List Value} {ns : List Int}
end
/-! ### repr of data -/
section
variable {X : Cx}
end
/-! lists of small numbers -/
end Ly

set_option maxHeartbeats 4000000
namespace Ly
open PySem PySem.Spec PyProof.Rows L2 SX
/-! ### paths, depths, the nests within a nest -/
/-! ways of the maker -/
section
variable {fs : List (List Nd × Nat)} {cur ds : List Nd} {c o : Nat}
end
/-! what a path leads to -/
def Rch : List Nd → List Nat → Nd → Prop
  | _, [], _ => False
  | ds, [k], d => ds[k]? = some d
  | ds, k :: j :: p, d => ∃ o es, ds[k]? = some (.br o es) ∧ Rch es (j :: p) d
theorem Rch.cons {ds es : List Nd} {k o : Nat} {p : List Nat} {d : Nd} (h : ds[k]? = some (.br o es)) (r : Rch es p d) : Rch ds (k :: p) d := by
  cases p with
  | nil => exact r.elim
  | cons j p => exact ⟨o, es, h, r⟩
/-! the text within -/
/-! an opening sign of a nest's text opens the nest that stands there in the row of nests within -/
end Ly

set_option maxHeartbeats 4000000
namespace Ly
open PySem PySem.Spec PyProof.Rows L2 SX
/-! ### len(set) of tuples of ints -/
/-! ### nests side by side -/
/-! paths: all different, each behind the one it goes on from -/
/-! outlines side by side, within -/
end Ly

set_option maxHeartbeats 4000000
namespace Ly
/-! ### all rows of steps with so many deeds, counted -/
def Stp.wd (W : Wd) : Stp → Prop
  | .kp _ => True
  | .st _ => W.st = true
  | .tn _ _ => W.tn = true
  | .pt _ => W.pt = true
def cstS : List Stp → Nat
  | [] => 0
  | .kp _ :: α => cstS α
  | .st _ :: α => cstS α + 1
  | .tn _ _ :: α => cstS α + 1
  | .pt _ :: α => cstS α + 1
/-- all rows of steps by words, from a pile of awaited ones, over a text, with so many deeds, in order -/
def rowsL (W : Wd) (st r : List Nat) (n : Nat) : List (List Stp) :=
  (match n with
   | 0 => []
   | n + 1 => if W.pt = true then BRK.flatMap fun c => (match stp (some st) c with | none => [] | some s => rowsL W s r n).map (Stp.pt c :: ·) else [])
  ++ (match r with
   | [] => if st = [] ∧ n = 0 then [[]] else []
   | x :: r => if x ∈ BRK then
        (match n with
         | 0 => []
         | n + 1 => (if W.st = true then (rowsL W st r n).map (Stp.st x :: ·) else []) ++ (if W.tn = true then (BRK.filter (· ≠ x)).flatMap fun c => (match stp (some st) c with | none => [] | some s => rowsL W s r n).map (Stp.tn x c :: ·) else []))
        ++ (match stp (some st) x with | none => [] | some s => rowsL W s r n).map (Stp.kp x :: ·)
      else (rowsL W st r n).map (Stp.kp x :: ·))
termination_by n + r.length
/-! series -/
abbrev Ser := Nat → Nat
def sh (f : Ser) : Ser := fun n => match n with | 0 => 0 | n + 1 => f n
def gat (b : Bool) (f : Ser) : Ser := fun n => if b = true then f n else 0
def bS (cs : List Nat) (f : Nat → Ser) : Ser := fun n => (cs.map fun c => f c n).sum
def An (W : Wd) (st r : List Nat) : Ser := fun n => (rowsL W st r n).length
/-! products -/
def cv : Ser → Ser → Ser
  | f, g, 0 => f 0 * g 0
  | f, g, n + 1 => f 0 * g (n + 1) + cv (fun a => f (a + 1)) g n
/-- over all ways to part a text in two -/
def SP (f g : List Nat → Ser) : List Nat → Ser
  | [] => cv (f []) (g [])
  | x :: r => fun n => cv (f []) (g (x :: r)) n + SP (fun u => f (x :: u)) g r n
/-- closing what is awaited last, then the rest -/
def Cl (W : Wd) (k : Nat) (st v : List Nat) : Ser := fun n => sh (gat W.pt (An W st v)) n + match v with
  | [] => 0
  | x :: v => if x ∈ BRK then (if x = k then An W st v n else sh (gat W.tn (An W st v)) n) else 0
end Ly

set_option maxHeartbeats 4000000
namespace Ly
/-! ### the least number with how many, of a series -/
def Ld (f : Ser) (x : MC) : Prop := match x with
  | none => ∀ n, f n = 0
  | some p => f p.1 = p.2 ∧ p.2 ≠ 0 ∧ ∀ a, a < p.1 → f a = 0
theorem Ld.uniq {f : Ser} {x y : MC} (h1 : Ld f x) (h2 : Ld f y) : x = y := by
  cases x with
  | none =>
    cases y with
    | none => rfl
    | some q => exact absurd ((h1 q.1).symm.trans h2.1).symm h2.2.1
  | some p =>
    cases y with
    | none => exact absurd ((h2 p.1).symm.trans h1.1).symm h1.2.1
    | some q =>
      obtain ⟨a, m⟩ := p
      obtain ⟨b, k⟩ := q
      obtain ⟨u1, u2, u3⟩ := h1
      obtain ⟨v1, v2, v3⟩ := h2
      dsimp only at *
      have e : a = b := by
        rcases Nat.lt_trichotomy a b with h | h | h
        · exact absurd (u1.symm.trans (v3 a h)) u2
        · exact h
        · exact absurd (v1.symm.trans (u3 b h)) v2
      subst e
      rw [← u1, ← v1]
theorem Ld.congr {f g : Ser} {x : MC} (h : Ld f x) (e : ∀ n, f n = g n) : Ld g x := by
  have : f = g := funext e
  rw [← this]
  exact h
end Ly

set_option maxHeartbeats 4000000
namespace Ly
/-! ### rows of steps -/
structure Row (W : Wd) (st r : List Nat) (n : Nat) (α : List Stp) : Prop where
  ok : okS α
  wd : ∀ s ∈ α, s.wd W
  tx : inS α = r
  ct : cstS α = n
  fo : (outS α).foldl stp (some st) = some []
section
variable {W : Wd} {st s r : List Nat} {n c x : Nat} {β : List Stp}
theorem okS_cons {y : Stp} : okS (y :: β) ↔ y.ok ∧ okS β := by
  unfold okS
  simp
theorem wd_cons {y : Stp} : (∀ s ∈ y :: β, s.wd W) ↔ y.wd W ∧ ∀ s ∈ β, s.wd W := by simp
theorem Row.pt (hp : W.pt = true) (hc : c ∈ BRK) (hs : stp (some st) c = some s) (h : Row W s r n β) : Row W st r (n + 1) (.pt c :: β) :=
  ⟨okS_cons.mpr ⟨hc, h.ok⟩, wd_cons.mpr ⟨hp, h.wd⟩, h.tx, by show cstS β + 1 = n + 1; rw [h.ct], by show (outS β).foldl stp (stp (some st) c) = some []; rw [hs]; exact h.fo⟩
theorem Row.str (hp : W.st = true) (hx : x ∈ BRK) (h : Row W st r n β) : Row W st (x :: r) (n + 1) (.st x :: β) :=
  ⟨okS_cons.mpr ⟨hx, h.ok⟩, wd_cons.mpr ⟨hp, h.wd⟩, by show x :: inS β = x :: r; rw [h.tx], by show cstS β + 1 = n + 1; rw [h.ct], h.fo⟩
theorem Row.tn (hp : W.tn = true) (hx : x ∈ BRK) (hc : c ∈ BRK) (hn : c ≠ x) (hs : stp (some st) c = some s) (h : Row W s r n β) : Row W st (x :: r) (n + 1) (.tn x c :: β) :=
  ⟨okS_cons.mpr ⟨⟨hx, hc, hn⟩, h.ok⟩, wd_cons.mpr ⟨hp, h.wd⟩, by show x :: inS β = x :: r; rw [h.tx], by show cstS β + 1 = n + 1; rw [h.ct], by show (outS β).foldl stp (stp (some st) c) = some []; rw [hs]; exact h.fo⟩
theorem Row.kp (hs : stp (some st) x = some s) (h : Row W s r n β) : Row W st (x :: r) n (.kp x :: β) :=
  ⟨okS_cons.mpr ⟨trivial, h.ok⟩, wd_cons.mpr ⟨trivial, h.wd⟩, by show x :: inS β = x :: r; rw [h.tx], h.ct, by show (outS β).foldl stp (stp (some st) x) = some []; rw [hs]; exact h.fo⟩
theorem fold_some {o : Option (List Nat)} {l t : List Nat} (h : l.foldl stp o = some t) : ∃ s, o = some s := by
  cases o with
  | none => rw [fold_none] at h; cases h
  | some s => exact ⟨s, rfl⟩
theorem Row.ipt (h : Row W st r n (.pt c :: β)) : W.pt = true ∧ c ∈ BRK ∧ ∃ s m, stp (some st) c = some s ∧ n = m + 1 ∧ Row W s r m β := by
  obtain ⟨h1, h2, h3, h4, h5⟩ := h
  have h5' : (outS β).foldl stp (stp (some st) c) = some [] := h5
  obtain ⟨s, hs⟩ := fold_some h5'
  rw [hs] at h5'
  exact ⟨(wd_cons.mp h2).1, (okS_cons.mp h1).1, s, cstS β, hs, h4.symm, (okS_cons.mp h1).2, (wd_cons.mp h2).2, h3, rfl, h5'⟩
theorem Row.ist (h : Row W st r n (.st x :: β)) : W.st = true ∧ x ∈ BRK ∧ ∃ r' m, r = x :: r' ∧ n = m + 1 ∧ Row W st r' m β := by
  obtain ⟨h1, h2, h3, h4, h5⟩ := h
  exact ⟨(wd_cons.mp h2).1, (okS_cons.mp h1).1, inS β, cstS β, h3.symm, h4.symm, (okS_cons.mp h1).2, (wd_cons.mp h2).2, rfl, rfl, h5⟩
theorem Row.itn (h : Row W st r n (.tn x c :: β)) : W.tn = true ∧ x ∈ BRK ∧ c ∈ BRK ∧ c ≠ x ∧ ∃ s r' m, stp (some st) c = some s ∧ r = x :: r' ∧ n = m + 1 ∧ Row W s r' m β := by
  obtain ⟨h1, h2, h3, h4, h5⟩ := h
  have h5' : (outS β).foldl stp (stp (some st) c) = some [] := h5
  obtain ⟨s, hs⟩ := fold_some h5'
  rw [hs] at h5'
  obtain ⟨⟨a1, a2, a3⟩, a4⟩ := okS_cons.mp h1
  exact ⟨(wd_cons.mp h2).1, a1, a2, a3, s, inS β, cstS β, hs, h3.symm, h4.symm, a4, (wd_cons.mp h2).2, rfl, rfl, h5'⟩
theorem Row.ikp (h : Row W st r n (.kp x :: β)) : ∃ s r', stp (some st) x = some s ∧ r = x :: r' ∧ Row W s r' n β := by
  obtain ⟨h1, h2, h3, h4, h5⟩ := h
  have h5' : (outS β).foldl stp (stp (some st) x) = some [] := h5
  obtain ⟨s, hs⟩ := fold_some h5'
  rw [hs] at h5'
  exact ⟨s, inS β, hs, h3.symm, (okS_cons.mp h1).2, (wd_cons.mp h2).2, rfl, h4, h5'⟩
end
theorem mem_opt {W : Wd} {r : List Nat} {n : Nat} {o : Option (List Nat)} {f : List Stp → List Stp} {α : List Stp} : α ∈ (match o with | none => [] | some s => rowsL W s r n).map f ↔ ∃ s β, o = some s ∧ β ∈ rowsL W s r n ∧ f β = α := by
  cases o with
  | none => simp
  | some s => simp
theorem not_brk {x : Nat} (h : x ∉ BRK) (st : Option (List Nat)) : stp st x = st := stp_let (fun q => h (brk_or.mpr (.inl q))) (fun q => h (brk_or.mpr (.inr q)))
theorem rows_sound {W : Wd} : ∀ (N n : Nat) (r st : List Nat) (α : List Stp), n + r.length ≤ N → α ∈ rowsL W st r n → Row W st r n α := by
  intro N
  induction N with
  | zero =>
    intro n r st α h hm
    have h1 : n = 0 := by omega
    have h2 : r = [] := List.length_eq_zero_iff.mp (by omega)
    subst h1 h2
    rw [rowsL.eq_def] at hm
    dsimp only at hm
    rw [List.nil_append] at hm
    by_cases hs : st = [] ∧ 0 = 0
    · rw [if_pos hs] at hm
      rw [List.mem_singleton.mp hm, hs.1]
      exact ⟨(fun _ h => nomatch h), (fun _ h => nomatch h), rfl, rfl, rfl⟩
    · rw [if_neg hs] at hm; cases hm
  | succ N ih =>
    intro n r st α h hm
    rw [rowsL.eq_def] at hm
    rcases List.mem_append.mp hm with hm | hm
    · cases n with
      | zero => cases hm
      | succ n =>
        dsimp only at hm
        by_cases hp : W.pt = true
        · rw [if_pos hp] at hm
          obtain ⟨c, hc, hm⟩ := List.mem_flatMap.mp hm
          obtain ⟨s, β, hs, hb, rfl⟩ := mem_opt.mp hm
          exact Row.pt hp hc hs (ih n r s β (by omega) hb)
        · rw [if_neg hp] at hm; cases hm
    · cases r with
      | nil =>
        dsimp only at hm
        by_cases hs : st = [] ∧ n = 0
        · rw [if_pos hs] at hm
          rw [List.mem_singleton.mp hm, hs.1, hs.2]
          exact ⟨(fun _ h => nomatch h), (fun _ h => nomatch h), rfl, rfl, rfl⟩
        · rw [if_neg hs] at hm; cases hm
      | cons x r =>
        rw [List.length_cons] at h
        dsimp only at hm
        by_cases hx : x ∈ BRK
        · rw [if_pos hx] at hm
          rcases List.mem_append.mp hm with hm | hm
          · cases n with
            | zero => cases hm
            | succ n =>
              dsimp only at hm
              rcases List.mem_append.mp hm with hm | hm
              · by_cases hp : W.st = true
                · rw [if_pos hp] at hm
                  obtain ⟨β, hb, rfl⟩ := List.mem_map.mp hm
                  exact Row.str hp hx (ih n r st β (by omega) hb)
                · rw [if_neg hp] at hm; cases hm
              · by_cases hp : W.tn = true
                · rw [if_pos hp] at hm
                  obtain ⟨c, hc, hm⟩ := List.mem_flatMap.mp hm
                  obtain ⟨hc1, hc2⟩ := List.mem_filter.mp hc
                  obtain ⟨s, β, hs, hb, rfl⟩ := mem_opt.mp hm
                  exact Row.tn hp hx hc1 (by simpa using hc2) hs (ih n r s β (by omega) hb)
                · rw [if_neg hp] at hm; cases hm
          · obtain ⟨s, β, hs, hb, rfl⟩ := mem_opt.mp hm
            exact Row.kp hs (ih n r s β (by omega) hb)
        · rw [if_neg hx] at hm
          obtain ⟨β, hb, rfl⟩ := List.mem_map.mp hm
          exact Row.kp (not_brk hx _) (ih n r st β (by omega) hb)
theorem rows_all {W : Wd} : ∀ (α : List Stp) (st r : List Nat) (n : Nat), Row W st r n α → α ∈ rowsL W st r n
  | [], st, r, n, h => by
    have h1 : r = [] := h.tx.symm
    have h2 : n = 0 := h.ct.symm
    have h3 : st = [] := Option.some.inj h.fo
    subst h1 h2 h3
    rw [rowsL.eq_def]
    exact List.mem_append_right _ (by dsimp only; rw [if_pos ⟨rfl, rfl⟩]; exact List.mem_singleton.mpr rfl)
  | .pt c :: β, st, r, n, h => by
    obtain ⟨hp, hc, s, m, hs, rfl, hb⟩ := h.ipt
    rw [rowsL.eq_def]
    refine List.mem_append_left _ ?_
    dsimp only
    rw [if_pos hp]
    exact List.mem_flatMap.mpr ⟨c, hc, mem_opt.mpr ⟨s, β, hs, rows_all β s r m hb, rfl⟩⟩
  | .st x :: β, st, r, n, h => by
    obtain ⟨hp, hx, r', m, rfl, rfl, hb⟩ := h.ist
    rw [rowsL.eq_def]
    refine List.mem_append_right _ ?_
    dsimp only
    rw [if_pos hx]
    refine List.mem_append_left _ (List.mem_append_left _ ?_)
    rw [if_pos hp]
    exact List.mem_map.mpr ⟨β, rows_all β st r' m hb, rfl⟩
  | .tn x c :: β, st, r, n, h => by
    obtain ⟨hp, hx, hc, hn, s, r', m, hs, rfl, rfl, hb⟩ := h.itn
    rw [rowsL.eq_def]
    refine List.mem_append_right _ ?_
    dsimp only
    rw [if_pos hx]
    refine List.mem_append_left _ (List.mem_append_right _ ?_)
    rw [if_pos hp]
    exact List.mem_flatMap.mpr ⟨c, List.mem_filter.mpr ⟨hc, by simpa using hn⟩, mem_opt.mpr ⟨s, β, hs, rows_all β s r' m hb, rfl⟩⟩
  | .kp x :: β, st, r, n, h => by
    obtain ⟨s, r', hs, rfl, hb⟩ := h.ikp
    have hm := rows_all β s r' n hb
    rw [rowsL.eq_def]
    refine List.mem_append_right _ ?_
    dsimp only
    by_cases hx : x ∈ BRK
    · rw [if_pos hx]
      exact List.mem_append_right _ (mem_opt.mpr ⟨s, β, hs, hm, rfl⟩)
    · rw [if_neg hx]
      rw [not_brk hx] at hs
      cases hs
      exact List.mem_map.mpr ⟨β, hm, rfl⟩
theorem mem_rows {W : Wd} {st r : List Nat} {n : Nat} {α : List Stp} : α ∈ rowsL W st r n ↔ Row W st r n α := ⟨rows_sound _ n r st α (Nat.le_refl _), rows_all α st r n⟩
theorem An_pos {W : Wd} {st r : List Nat} {n : Nat} : An W st r n ≠ 0 ↔ ∃ α, Row W st r n α := by
  constructor
  · intro h
    have : rowsL W st r n ≠ [] := fun e => h (by show (rowsL W st r n).length = 0; rw [e]; rfl)
    obtain ⟨α, ha⟩ := List.exists_mem_of_ne_nil _ this
    exact ⟨α, mem_rows.mp ha⟩
  · rintro ⟨α, ha⟩ h
    have := List.length_pos_of_mem (mem_rows.mpr ha)
    have h' : (rowsL W st r n).length = 0 := h
    omega
/-! ### rows put together -/
theorem okS_app {α β : List Stp} (h1 : okS α) (h2 : okS β) : okS (α ++ β) := fun s hs => (List.mem_append.mp hs).elim (h1 s) (h2 s)
theorem inS_app (α β : List Stp) : inS (α ++ β) = inS α ++ inS β := by unfold inS; rw [List.map_append, List.flatten_append]
theorem outS_app (α β : List Stp) : outS (α ++ β) = outS α ++ outS β := by unfold outS; rw [List.map_append, List.flatten_append]
theorem cstS_app : ∀ (α β : List Stp), cstS (α ++ β) = cstS α + cstS β
  | [], β => (Nat.zero_add _).symm
  | .kp _ :: α, β => cstS_app α β
  | .st _ :: α, β => by show cstS (α ++ β) + 1 = cstS α + 1 + cstS β; rw [cstS_app α β]; omega
  | .tn _ _ :: α, β => by show cstS (α ++ β) + 1 = cstS α + 1 + cstS β; rw [cstS_app α β]; omega
  | .pt _ :: α, β => by show cstS (α ++ β) + 1 = cstS α + 1 + cstS β; rw [cstS_app α β]; omega
theorem Row.app {W : Wd} {u v : List Nat} {a b : Nat} {α β : List Stp} (h1 : Row W [] u a α) (h2 : Row W [] v b β) : Row W [] (u ++ v) (a + b) (α ++ β) :=
  ⟨okS_app h1.ok h2.ok, fun s hs => (List.mem_append.mp hs).elim (h1.wd s) (h2.wd s), by rw [inS_app, h1.tx, h2.tx], by rw [cstS_app, h1.ct, h2.ct], by rw [outS_app, List.foldl_append, h1.fo]; exact h2.fo⟩
theorem An_app {W : Wd} {u v : List Nat} {a b : Nat} (h1 : An W [] u a ≠ 0) (h2 : An W [] v b ≠ 0) : An W [] (u ++ v) (a + b) ≠ 0 := by
  obtain ⟨α, ha⟩ := An_pos.mp h1
  obtain ⟨β, hb⟩ := An_pos.mp h2
  exact An_pos.mpr ⟨_, ha.app hb⟩
/-- a sign made into another one, or kept -/
def asS (x c : Nat) : Stp := if c = x then .kp x else .tn x c
def asC (x c : Nat) : Nat := if c = x then 0 else 1
theorem Row.as {W : Wd} {st s r : List Nat} {n x c : Nat} {β : List Stp} (hp : c = x ∨ W.tn = true) (hx : x ∈ BRK) (hc : c ∈ BRK) (hs : stp (some st) c = some s) (h : Row W s r n β) : Row W st (x :: r) (asC x c + n) (asS x c :: β) := by
  unfold asS asC
  by_cases e : c = x
  · rw [if_pos e, if_pos e, Nat.zero_add]
    subst e
    exact Row.kp hs h
  · rw [if_neg e, if_neg e, Nat.add_comm]
    exact Row.tn (hp.resolve_left e) hx hc e hs h
/-- what stands on a pile that stays -/
theorem Row.fr {W : Wd} {u : List Nat} {a : Nat} {α : List Stp} (h : Row W [] u a α) {st r : List Nat} {n : Nat} {β : List Stp} (hb : Row W st r n β) : Row W st (u ++ r) (a + n) (α ++ β) :=
  ⟨okS_app h.ok hb.ok, fun s hs => (List.mem_append.mp hs).elim (h.wd s) (hb.wd s), by rw [inS_app, h.tx, hb.tx], by rw [cstS_app, h.ct, hb.ct], by
    rw [outS_app, List.foldl_append, fold_run (r := []) h.fo]
    exact hb.fo⟩
theorem Row.nil {W : Wd} : Row W [] [] 0 [] := ⟨(fun _ h => nomatch h), (fun _ h => nomatch h), rfl, rfl, rfl⟩
theorem few_way : ∀ x ∈ BRK, ∀ d ∈ BRK, ∃ o ∈ OPN, asC x o + asC d (oth o) = (few x d).1 := by decide
theorem An_pair {W : Wd} {x d : Nat} (hx : x ∈ BRK) (hd : d ∈ BRK) (hg : (few x d).1 = 0 ∨ W.tn = true) {u : List Nat} {a : Nat} (h : An W [] u a ≠ 0) : An W [] (x :: (u ++ [d])) (a + (few x d).1) ≠ 0 := by
  obtain ⟨α, ha⟩ := An_pos.mp h
  obtain ⟨o, ho, ec⟩ := few_way x hx d hd
  have hob := brk_or.mpr (.inl ho)
  have hcb := oth_brk o hob
  have p1 : o = x ∨ W.tn = true := by
    by_cases e : o = x
    · exact .inl e
    · refine .inr (hg.resolve_left ?_)
      have : asC x o = 1 := if_neg e
      omega
  have p2 : oth o = d ∨ W.tn = true := by
    by_cases e : oth o = d
    · exact .inl e
    · refine .inr (hg.resolve_left ?_)
      have : asC d (oth o) = 1 := if_neg e
      omega
  have h2 : Row W [oth o] [d] (asC d (oth o) + 0) [asS d (oth o)] := Row.as p2 hd hcb (stp_clo (oth_clo o ho)) Row.nil
  have h3 := Row.as p1 hx hob (stp_opn ho) (ha.fr h2)
  rw [show asC x o + (a + (asC d (oth o) + 0)) = a + (few x d).1 by omega] at h3
  exact An_pos.mpr ⟨_, h3⟩
end Ly

set_option maxHeartbeats 4000000
namespace Ly
/-! ### all that begins so: what is least of it -/
section
variable {W : Wd}
def g1 (W : Wd) (x : Nat) (v : List Nat) : Ser := fun n => (if x ∈ OPN then Cl W (oth x) [] v n else 0) + sh (gat W.tn (bS (OPN.filter (· ≠ x)) fun o => Cl W (oth o) [] v)) n
def g2 (W : Wd) (v : List Nat) : Ser := sh (gat W.pt (bS OPN fun o => Cl W (oth o) [] v))
/-! the least ones -/
/-! pairs -/
def n0 (x d : Nat) : Nat := if x ∈ OPN ∧ d = oth x then 1 else 0
def n1 (x d : Nat) : Nat := (if x ∈ OPN ∧ d ≠ oth x then 1 else 0) + (OPN.filter (· ≠ x)).countP (fun o => decide (d = oth o))
def n2 (x d : Nat) : Nat := (OPN.filter (· ≠ x)).length - (OPN.filter (· ≠ x)).countP (fun o => decide (d = oth o))
end
end Ly

set_option maxHeartbeats 4000000
namespace Ly
/-! ### the table's numbers are the least ones, with how many -/
end Ly

set_option maxHeartbeats 4000000
namespace Ly
/-! ### with some brackets open: the least number from each place on -/
def clC (W : Wd) (l : List Nat) (k : Nat) (F : Nat → MC) (m : Nat) : MC := mAdd (if W.pt = true then mMul w1 (F m) else none) (match l[m]? with
  | none => none
  | some x => if x = k then F (m + 1) else if x ∈ BRK ∧ W.tn = true then mMul w1 (F (m + 1)) else none)
def LV (W : Wd) (l : List Nat) : List Nat → Nat → MC
  | [], i => mcN l W i l.length
  | k :: st, i => sm (fun t => mMul (mcN l W i (i + t)) (clC W l k (LV W l st) (i + t))) (l.length - i + 1)
/-! ### what can be done at a place, in order -/
def Stp.c : Stp → Nat
  | .kp _ => 0
  | _ => 1
/-- the pile behind a step -/
def nxS (st : List Nat) (s : Stp) : Option (List Nat) := s.o.foldl stp (some st)
/-- how many go on by a step, with just so many deeds -/
def mb (W : Wd) (l : List Nat) (st : List Nat) (i n : Nat) (s : Stp) : Nat := match nxS st s with
  | none => 0
  | some st' => match LV W l st' (i + s.i.length) with
    | none => 0
    | some p => if p.1 + s.c = n then p.2 else 0
end Ly

set_option maxHeartbeats 4000000
namespace Ly
/-! ### how many at most, how great the least number at most -/
/-! ### the row with a number -/
end Ly

set_option maxHeartbeats 4000000
namespace Ly
open PySem PySem.Spec PyProof.Rows L2 SX
/-! ### things side by side -/
end Ly

set_option maxHeartbeats 4000000
namespace Ly
/-! ### so many deeds are enough: strikes and turned pairs, by lists -/
inductive Mx : List Nat → Nat → Prop
  | nil : Mx [] 0
  | let_ {x n : Nat} {r : List Nat} : x ∉ BRK → Mx r n → Mx (x :: r) n
  | str {x n : Nat} {r : List Nat} : x ∈ BRK → Mx r n → Mx (x :: r) (n + 1)
  | pair {x d a b : Nat} {u v : List Nat} : x ∈ BRK → d ∈ BRK → Mx u a → Mx v b → Mx (x :: (u ++ d :: v)) (tns x d + a + b)
theorem Mx.app {u v : List Nat} {a b : Nat} (h : Mx u a) (h2 : Mx v b) : Mx (u ++ v) (a + b) := by
  induction h with
  | nil => rw [Nat.zero_add]; exact h2
  | let_ e _ ih => exact .let_ e ih
  | @str x n r e _ ih =>
    rw [show n + 1 + b = n + b + 1 by omega]
    exact .str e ih
  | @pair x d a b' u v e1 e2 h3 _ _ ih =>
    rw [List.cons_append, List.append_assoc, List.cons_append, Nat.add_assoc]
    exact .pair e1 e2 h3 ih
theorem Mx.one {x : Nat} (h : x ∈ BRK) : Mx [x] 1 := .str h .nil
theorem app_split {α : Type} {u v a z : List α} {d o : α} (h : u ++ d :: v = a ++ o :: z) : (∃ c, u = a ++ o :: c ∧ z = c ++ d :: v) ∨ (u = a ∧ d = o ∧ v = z) ∨ (∃ c, a = u ++ d :: c ∧ v = c ++ o :: z) := by
  rcases List.append_eq_append_iff.mp h with ⟨as, h1, h2⟩ | ⟨bs, h1, h2⟩
  · cases as with
    | nil =>
      rw [List.append_nil] at h1
      cases h2
      exact .inr (.inl ⟨h1.symm, rfl, rfl⟩)
    | cons x as =>
      cases h2
      exact .inr (.inr ⟨as, h1, rfl⟩)
  · cases bs with
    | nil =>
      rw [List.append_nil] at h1
      cases h2
      exact .inr (.inl ⟨h1, rfl, rfl⟩)
    | cons x bs =>
      cases h2
      exact .inl ⟨bs, h1, rfl⟩
theorem Mx.last {w : List Nat} {n : Nat} (h : Mx w n) : ∀ {u : List Nat} {y : Nat}, w = u ++ [y] → y ∈ BRK → (∃ m, Mx u m ∧ m + 1 ≤ n) ∨ (∃ a1 Y a2 p q, u = a1 ++ Y :: a2 ∧ Y ∈ BRK ∧ Mx a1 p ∧ Mx a2 q ∧ tns Y y + p + q ≤ n) := by
  induction h with
  | nil => intro u y e; cases u <;> cases e
  | @let_ x n r hx hr ih =>
    intro u y e hy
    cases u with
    | nil => cases e; exact absurd hy hx
    | cons z u =>
      cases e
      rcases ih rfl hy with ⟨m, h1, h2⟩ | ⟨a1, Y, a2, p, q, rfl, h2, h3, h4, h5⟩
      · exact .inl ⟨m, .let_ hx h1, h2⟩
      · exact .inr ⟨x :: a1, Y, a2, p, q, rfl, h2, .let_ hx h3, h4, h5⟩
  | @str x n r hx hr ih =>
    intro u y e hy
    cases u with
    | nil => cases e; exact .inl ⟨0, .nil, by omega⟩
    | cons z u =>
      cases e
      rcases ih rfl hy with ⟨m, h1, h2⟩ | ⟨a1, Y, a2, p, q, rfl, h2, h3, h4, h5⟩
      · exact .inl ⟨m + 1, .str hx h1, by omega⟩
      · exact .inr ⟨x :: a1, Y, a2, p + 1, q, rfl, h2, .str hx h3, h4, by omega⟩
  | @pair x d a b s v hx hd hs hv ih1 ih2 =>
    intro u y e hy
    cases u with
    | nil =>
      exfalso
      have := congrArg List.length e
      simp at this
    | cons z u =>
      rw [List.cons_append] at e
      have ex : x = z := (List.cons.inj e).1
      subst ex
      rcases app_split (List.cons.inj e).2 with ⟨c, h1, h2⟩ | ⟨h1, h2, h3⟩ | ⟨c, h1, h2⟩
      · exfalso
        cases c <;> cases h2
      · subst h1 h2 h3
        have : b = 0 := by cases hv; rfl
        subst this
        exact .inr ⟨[], x, s, 0, a, rfl, hx, .nil, hs, by omega⟩
      · subst h1
        rcases ih2 h2 hy with ⟨m, g1, g2⟩ | ⟨a1, Y, a2, p, q, rfl, g2, g3, g4, g5⟩
        · exact .inl ⟨tns x d + a + m, .pair hx hd hs g1, by omega⟩
        · exact .inr ⟨x :: (s ++ d :: a1), Y, a2, tns x d + a + p, q, by simp, g2, .pair hx hd hs g3, g4, by omega⟩
/-- the first bracket struck or made a pair -/
theorem Mx.first {x n : Nat} {r : List Nat} (h : Mx (x :: r) n) (hx : x ∈ BRK) : (∃ m, Mx r m ∧ n = m + 1) ∨ (∃ u d v p q, r = u ++ d :: v ∧ d ∈ BRK ∧ Mx u p ∧ Mx v q ∧ n = tns x d + p + q) := by
  cases h with
  | let_ h _ => exact absurd hx h
  | str _ h => exact .inl ⟨_, h, rfl⟩
  | pair _ hd h1 h2 => exact .inr ⟨_, _, _, _, _, rfl, hd, h1, h2, rfl⟩
/-! ### the least number -/
theorem Mx.An {W : Wd} (hs : W.st = true) (ht : W.tn = true) {l : List Nat} {n : Nat} (h : Mx l n) : An W [] l n ≠ 0 := by
  induction h with
  | nil => exact An_pos.mpr ⟨_, Row.nil⟩
  | let_ hx _ ih =>
    obtain ⟨α, ha⟩ := An_pos.mp ih
    exact An_pos.mpr ⟨_, Row.kp (not_brk hx _) ha⟩
  | str hx _ ih =>
    obtain ⟨α, ha⟩ := An_pos.mp ih
    exact An_pos.mpr ⟨_, Row.str hs hx ha⟩
  | @pair x d a b u v hx hd _ _ ih1 ih2 =>
    have := An_app (An_pair hx hd (.inr ht) ih1) ih2
    rw [few_tns x hx d hd, show x :: (u ++ [d]) ++ v = x :: (u ++ d :: v) by simp, show a + tns x d + b = tns x d + a + b by omega] at this
    exact this
/-! a clean text put in -/
end Ly

set_option maxHeartbeats 4000000
namespace Ly
/-! ### rows cut, changed at one place -/
section
variable {W : Wd} {a b : List Nat} {n : Nat}
end
/-! ### laws of the least number -/
theorem clean_one {x : Nat} (h : x ∉ BRK) : clean [x] := by
  show [x].foldl stp (some []) = some []
  rw [List.foldl_cons, not_brk h]
  rfl
/-! clean texts -/
end Ly

set_option maxHeartbeats 4000000
namespace Ly
open PySem PySem.Spec PyProof.Rows L2 SX
/-! ### lists of deeds as values -/
def DdV (H : Hp) (v : V) (d : Deed) : Prop := ∃ r, v = .ref r ∧ H r = some (.tup (ddV d))
theorem DdV.same {H H' : Hp} {v : V} {d : Deed} (h : DdV H v d) (s : Same H H') : DdV H' v d := by
  obtain ⟨r, h1, h2⟩ := h
  exact ⟨r, h1, s _ _ h2⟩
theorem DdV.but {H H' : Hp} {v : V} {d : Deed} {p : Addr} (h : DdV H v d) (b : But p H H') (hp : ∀ ys, H p ≠ some (.tup ys)) : DdV H' v d := by
  obtain ⟨r, h1, h2⟩ := h
  exact ⟨r, h1, b _ _ (fun e => hp _ (by rw [← e]; exact h2)) h2⟩
/-! ### deeds and rows -/
/-! ### all lists of deeds, one by one -/
end Ly

set_option maxHeartbeats 4000000
namespace Ly
open PySem PySem.Spec PyProof.Rows L2 SX
/-! ### no row stands twice -/
/-! ### the deeds tell the row -/
/-! ### which choice deeds go on by -/
end Ly

set_option maxHeartbeats 4000000
namespace Ly
open PySem PySem.Spec PyProof.Rows L2 SX
/-! ### lists of deeds: which comes first -/
/-! the choices rise -/
/-! list(..), tuple(..) by names -/
def rListOf (K : PySem.W.Frag) : List V → Hp → VK → Prop := fun xs H Q => ∃ p ys, xs = [.ref p] ∧ (SqL K H p ys ∨ SqT K H p ys) ∧ ∀ l, H l = none → Q (.ref l) (upd H l (.lst ys))
def rTupleOf (K : PySem.W.Frag) : List V → Hp → VK → Prop := fun xs H Q => ∃ p ys, xs = [.ref p] ∧ ((SqL K H p ys ∧ ∀ l, H l = none → Q (.ref l) (upd H l (.tup ys))) ∨ (SqT K H p ys ∧ Q (.ref p) H))
theorem g_listOfL {K : PySem.W.Frag} {H : Hp} {Q : VK} {p : Addr} {ys : List V} (h : H p = some (.lst ys)) (q : ∀ l H1, H l = none → Same H H1 → H1 l = some (.lst ys) → Q (.ref l) H1) : rListOf K [.ref p] H Q := ⟨p, ys, rfl, .inl (sq_of h), fun l nl => q l _ nl (Same.new nl) upd_same⟩
theorem g_tupleOfL {K : PySem.W.Frag} {H : Hp} {Q : VK} {p : Addr} {ys : List V} (h : H p = some (.lst ys)) (q : ∀ l H1, H l = none → Same H H1 → H1 l = some (.tup ys) → Q (.ref l) H1) : rTupleOf K [.ref p] H Q := ⟨p, ys, rfl, .inl ⟨sq_of h, fun l nl => q l _ nl (Same.new nl) upd_same⟩⟩
/-! dicts of whole numbers, as sets -/
end Ly

set_option maxHeartbeats 4000000
namespace Ly
open PySem PySem.Spec PyProof.Rows L2 SX
section
variable {K : PySem.W.Frag} {σ : L2.St} {H : Hp} {g : TG} {tb : TS} {D : Ends} {a b : Addr} {xs ys : List V}
end
/-! ### the lists of deeds rise, one by one -/
end Ly

set_option maxHeartbeats 4000000
namespace Ly
open PySem PySem.Spec PyProof.Rows L2 SX
/-! ### how many rows: laws by words -/
def wLe (W W' : Wd) : Prop := (W.pt = true → W'.pt = true) ∧ (W.st = true → W'.st = true) ∧ (W.tn = true → W'.tn = true)
theorem wd_mono {W W' : Wd} (h : wLe W W') {s : Stp} (hs : s.wd W) : s.wd W' := by
  cases s with
  | kp c => trivial
  | st c => exact h.2.1 hs
  | tn c d => exact h.2.2 hs
  | pt d => exact h.1 hs
/-! the signs of a row renamed -/
def Stp.mp (f : Nat → Nat) : Stp → Stp
  | .kp c => .kp (f c)
  | .st c => .st (f c)
  | .tn c d => .tn (f c) (f d)
  | .pt d => .pt (f d)
/-! a row from behind -/
end Ly

set_option maxHeartbeats 4000000
namespace Ly
open PySem PySem.Spec PyProof.Rows L2 SX
/-! ### mended by few words -/
/-- without puts, by strikes -/
def nPut (W : Wd) : Wd := ⟨false, true, W.tn⟩
theorem wd_ap {W : Wd} {a b : List Stp} (h1 : ∀ s ∈ a, s.wd W) (h2 : ∀ s ∈ b, s.wd W) : ∀ s ∈ a ++ b, s.wd W := fun s hs => by
  rcases List.mem_append.mp hs with hs | hs
  · exact h1 s hs
  · exact h2 s hs
theorem wd_con {W : Wd} {y : Stp} {b : List Stp} (h1 : y.wd W) (h2 : ∀ s ∈ b, s.wd W) : ∀ s ∈ y :: b, s.wd W := fun s hs => by
  rcases List.mem_cons.mp hs with rfl | hs
  · exact h1
  · exact h2 s hs
def Stp.ct : Stp → Nat
  | .kp _ => 0
  | _ => 1
theorem cst_cons (s : Stp) (α : List Stp) : cstS (s :: α) = s.ct + cstS α := by
  cases s with
  | kp c => show cstS α = 0 + cstS α; omega
  | st c => show cstS α + 1 = 1 + cstS α; omega
  | tn c d => show cstS α + 1 = 1 + cstS α; omega
  | pt d => show cstS α + 1 = 1 + cstS α; omega
/-- a sign that is put out is struck, or gone -/
theorem gone {W : Wd} {y : Stp} {z : Nat} (hy : y.ok) (hw : y.wd W) (ho : y.o = [z]) (hz : z ∈ BRK) : ∃ γ : List Stp, okS γ ∧ (∀ s ∈ γ, s.wd (nPut W)) ∧ inS γ = y.i ∧ outS γ = [] ∧ ((∃ d, y = .pt d) → cstS γ = 0) ∧ cstS γ ≤ 1 := by
  cases y with
  | kp c =>
    have hc : c = z := by injection ho
    exact ⟨[.st c], okS_cons.mpr ⟨show c ∈ BRK by rw [hc]; exact hz, fun s hs => (by cases hs)⟩, wd_con rfl (fun s hs => (by cases hs)), rfl, rfl, fun ⟨d, h⟩ => (by cases h), Nat.le_refl _⟩
  | st c => cases ho
  | tn c d => exact ⟨[.st c], okS_cons.mpr ⟨hy.1, fun s hs => (by cases hs)⟩, wd_con rfl (fun s hs => (by cases hs)), rfl, rfl, fun ⟨d, h⟩ => (by cases h), Nat.le_refl _⟩
  | pt d => exact ⟨[], fun s hs => (by cases hs), fun s hs => (by cases hs), rfl, rfl, fun _ => rfl, Nat.zero_le _⟩
/-! puts for strikes -/
def Stp.nst : Stp → List Stp
  | .st c => if c ∈ OPN then [.kp c, .pt (oth c)] else [.pt (oth c), .kp c]
  | s => [s]
theorem nst_in (s : Stp) : inS s.nst = s.i := by
  cases s with
  | st c => show inS (if c ∈ OPN then [.kp c, .pt (oth c)] else [.pt (oth c), .kp c]) = [c]; split <;> rfl
  | kp c => rfl
  | tn c d => rfl
  | pt d => rfl
theorem nst_ct (s : Stp) : cstS s.nst = s.ct := by
  cases s with
  | st c => show cstS (if c ∈ OPN then [.kp c, .pt (oth c)] else [.pt (oth c), .kp c]) = 1; split <;> rfl
  | kp c => rfl
  | tn c d => rfl
  | pt d => rfl
theorem nst_ok {s : Stp} (h : s.ok) : okS s.nst := by
  cases s with
  | st c =>
    show okS (if c ∈ OPN then [.kp c, .pt (oth c)] else [.pt (oth c), .kp c])
    have hb : oth c ∈ BRK := oth_brk c h
    split
    · exact okS_cons.mpr ⟨trivial, okS_cons.mpr ⟨hb, fun s hs => (by cases hs)⟩⟩
    · exact okS_cons.mpr ⟨hb, okS_cons.mpr ⟨trivial, fun s hs => (by cases hs)⟩⟩
  | kp c => exact okS_cons.mpr ⟨h, fun s hs => (by cases hs)⟩
  | tn c d => exact okS_cons.mpr ⟨h, fun s hs => (by cases hs)⟩
  | pt d => exact okS_cons.mpr ⟨h, fun s hs => (by cases hs)⟩
theorem nst_wd {W : Wd} {s : Stp} (h : s.wd W) : ∀ t ∈ s.nst, t.wd ⟨true, false, W.tn⟩ := by
  cases s with
  | st c =>
    show ∀ t ∈ (if c ∈ OPN then [Stp.kp c, Stp.pt (oth c)] else [Stp.pt (oth c), Stp.kp c] : List Stp), Stp.wd ⟨true, false, W.tn⟩ t
    split
    · exact wd_con trivial (wd_con rfl fun s hs => (by cases hs))
    · exact wd_con rfl (wd_con trivial fun s hs => (by cases hs))
  | kp c => exact wd_con trivial fun s hs => (by cases hs)
  | tn c d => exact wd_con h fun s hs => (by cases hs)
  | pt d => exact wd_con rfl fun s hs => (by cases hs)
theorem nst_fo {s : Stp} (h : s.ok) (o : Option (List Nat)) : (outS s.nst).foldl stp o = s.o.foldl stp o := by
  cases s with
  | st c =>
    show (outS (if c ∈ OPN then [.kp c, .pt (oth c)] else [.pt (oth c), .kp c])).foldl stp o = o
    cases o with
    | none => split <;> rfl
    | some st =>
      split
      · rename_i h1
        show stp (stp (some st) c) (oth c) = some st
        rw [stp_opn h1, stp_clo (oth_clo c h1)]
      · rename_i h1
        have h2 : c ∈ CLO := (brk_or.mp (show c ∈ BRK from h)).resolve_left h1
        show stp (stp (some st) (oth c)) c = some st
        rw [stp_opn (oth_opn c h2), oth_oth c h, stp_clo h2]
  | kp c => rfl
  | tn c d => rfl
  | pt d => rfl
/-! struck and put for turned -/
/-! only turned -/
/-! ### the seven sets of words -/
end Ly

set_option maxHeartbeats 4000000
namespace Ly
open PySem PySem.Spec PyProof.Rows L2 SX
/-! ### calls without arguments; a method within a comprehension -/
section
variable {X : Cx} {k j : Nat} {x : Str} {sp : Sp} {p pos : Pos}
end
section
variable {X : Cx} {K : PySem.W.Frag} {T id : String} {name : Str} {o e : Expr} {es : List Expr} {to : TE} {t : TA} {apos cpos : Pos} {r : V → List V → Hp → VK → Prop}
end
end Ly

set_option maxHeartbeats 4000000
namespace Ly
open PySem PySem.Spec PyProof.Rows L2 SX
/-! ### least numbers by words -/
inductive Mw (W : Wd) : List Nat → Nat → Prop
  | nil : Mw W [] 0
  | let_ {x n : Nat} {r : List Nat} : x ∉ BRK → Mw W r n → Mw W (x :: r) n
  | str {x n : Nat} {r : List Nat} : x ∈ BRK → W.pt = true ∨ W.st = true → Mw W r n → Mw W (x :: r) (n + 1)
  | pair {x d a b : Nat} {u v : List Nat} : x ∈ BRK → d ∈ BRK → tns x d = 0 ∨ W.tn = true → Mw W u a → Mw W v b → Mw W (x :: (u ++ d :: v)) (tns x d + a + b)
theorem tns_oo : ∀ x ∈ OPN, ∀ d ∈ OPN, tns x d = 1 := by decide
theorem tns_oc : ∀ x ∈ OPN, ∀ d ∈ CLO, tns x d = if d = oth x then 0 else 1 := by decide
theorem tns_cc : ∀ x ∈ CLO, ∀ d ∈ CLO, tns x d = 1 := by decide
theorem tns_co : ∀ x ∈ CLO, ∀ d ∈ OPN, tns x d = 2 := by decide
theorem oth_ne : ∀ x ∈ CLO, ∀ d ∈ CLO, oth d ≠ x := by decide
theorem oth_ne2 : ∀ x ∈ OPN, ∀ d ∈ OPN, oth x ≠ d := by decide
/-- the two steps of a pair -/
theorem pair_steps {W : Wd} {x d : Nat} (hx : x ∈ BRK) (hd : d ∈ BRK) (ht : tns x d = 0 ∨ W.tn = true) : ∃ (o : Nat) (y z : Stp), o ∈ OPN ∧ y.ok ∧ z.ok ∧ y.wd W ∧ z.wd W ∧ y.i = [x] ∧ z.i = [d] ∧ y.o = [o] ∧ z.o = [oth o] ∧ y.ct + z.ct = tns x d := by
  rcases brk_or.mp hx with h1 | h1
  · rcases brk_or.mp hd with h2 | h2
    · have e := tns_oo x h1 d h2
      have t : W.tn = true := by rcases ht with h | h; · omega
                                 · exact h
      exact ⟨x, .kp x, .tn d (oth x), h1, trivial, ⟨hd, oth_brk x hx, oth_ne2 x h1 d h2⟩, trivial, t, rfl, rfl, rfl, rfl, e.symm⟩
    · have e := tns_oc x h1 d h2
      by_cases hdo : d = oth x
      · rw [if_pos hdo] at e
        exact ⟨x, .kp x, .kp d, h1, trivial, trivial, trivial, trivial, rfl, rfl, rfl, by rw [hdo]; rfl, e.symm⟩
      · rw [if_neg hdo] at e
        have t : W.tn = true := by rcases ht with h | h; · omega
                                   · exact h
        exact ⟨x, .kp x, .tn d (oth x), h1, trivial, ⟨hd, oth_brk x hx, fun h => hdo h.symm⟩, trivial, t, rfl, rfl, rfl, rfl, e.symm⟩
  · rcases brk_or.mp hd with h2 | h2
    · have e := tns_co x h1 d h2
      have t : W.tn = true := by rcases ht with h | h; · omega
                                 · exact h
      exact ⟨40, .tn x 40, .tn d 41, by decide, ⟨hx, by decide, fun h => opn_clo 40 (by decide) (h ▸ h1)⟩, ⟨hd, by decide, fun h => opn_clo d h2 (h ▸ (by decide : (41 : Nat) ∈ CLO))⟩, t, t, rfl, rfl, rfl, rfl, e.symm⟩
    · have e := tns_cc x h1 d h2
      have t : W.tn = true := by rcases ht with h | h; · omega
                                 · exact h
      exact ⟨oth d, .tn x (oth d), .kp d, oth_opn d h2, ⟨hx, oth_brk d hd, oth_ne x h1 d h2⟩, trivial, t, trivial, rfl, rfl, rfl, by rw [oth_oth d hd]; rfl, e.symm⟩
theorem Mw.row {W : Wd} {l : List Nat} {n : Nat} (h : Mw W l n) : ∃ α, Row W [] l n α := by
  induction h with
  | nil => exact ⟨[], fun s hs => (by cases hs), fun s hs => (by cases hs), rfl, rfl, rfl⟩
  | @let_ x n r hx _ ih =>
    obtain ⟨α, h⟩ := ih
    exact ⟨.kp x :: α, ⟨okS_cons.mpr ⟨trivial, h.ok⟩, wd_con trivial h.wd, by rw [inS_cons, h.tx]; rfl, h.ct, (clean_let (fun h1 => hx (brk_or.mpr (.inl h1))) (fun h1 => hx (brk_or.mpr (.inr h1)))).mpr h.fo⟩⟩
  | @str x n r hx hW _ ih =>
    obtain ⟨α, h⟩ := ih
    by_cases hs : W.st = true
    · exact ⟨.st x :: α, ⟨okS_cons.mpr ⟨hx, h.ok⟩, wd_con hs h.wd, by rw [inS_cons, h.tx]; rfl, by rw [cst_cons, h.ct]; show 1 + n = n + 1; omega, h.fo⟩⟩
    · have hp : W.pt = true := hW.resolve_right hs
      have hwd : ∀ t ∈ (Stp.st x).nst, t.wd W := fun t ht => wd_mono (W := ⟨true, false, false⟩) ⟨fun _ => hp, fun q => (by cases q), fun q => (by cases q)⟩ (nst_wd (W := ⟨true, true, false⟩) (s := .st x) rfl t ht)
      refine ⟨(Stp.st x).nst ++ α, ⟨okS_app (nst_ok (s := .st x) hx) h.ok, wd_ap hwd h.wd, by rw [inS_app, nst_in, h.tx]; rfl, by rw [cstS_app, nst_ct, h.ct]; show 1 + n = n + 1; omega, ?_⟩⟩
      rw [outS_app, List.foldl_append, nst_fo (s := .st x) hx]
      exact h.fo
  | @pair x d a b u v hx hd ht _ _ ih1 ih2 =>
    obtain ⟨α, h1⟩ := ih1
    obtain ⟨β, h2⟩ := ih2
    obtain ⟨o, y, z, k1, k2, k3, k4, k5, k6, k7, k8, k9, k10⟩ := pair_steps (W := W) hx hd ht
    refine ⟨y :: (α ++ z :: β), ⟨okS_cons.mpr ⟨k2, okS_app h1.ok (okS_cons.mpr ⟨k3, h2.ok⟩)⟩, wd_con k4 (wd_ap h1.wd (wd_con k5 h2.wd)), by rw [inS_cons, inS_app, inS_cons, h1.tx, h2.tx, k6, k7]; simp, by rw [cst_cons, cstS_app, cst_cons, h1.ct, h2.ct]; omega, ?_⟩⟩
    rw [outS_cons, outS_app, outS_cons, k8, k9]
    have hh := clean_app (clean_pair k1 h1.fo) h2.fo
    rw [show [o] ++ (outS α ++ ([oth o] ++ outS β)) = o :: (outS α ++ [oth o]) ++ outS β by simp]
    exact hh
theorem Mw.le {W : Wd} (hW : W.pt = true ∨ W.st = true) : ∀ l : List Nat, ∃ n, n ≤ l.length ∧ Mw W l n
  | [] => ⟨0, Nat.le_refl _, .nil⟩
  | x :: l => by
    obtain ⟨n, h1, h2⟩ := Mw.le hW l
    by_cases hx : x ∈ BRK
    · exact ⟨n + 1, by rw [List.length_cons]; omega, .str hx hW h2⟩
    · exact ⟨n, by rw [List.length_cons]; omega, .let_ hx h2⟩
end Ly

set_option maxHeartbeats 4000000
namespace Ly
open PySem PySem.Spec PyProof.Rows L2 SX
/-! ### dict(list of pairs) with tuples for keys -/
section
variable {X : Cx}
end
/-! ### dicts of texts -/
def rDNewK (H : Hp) (Q : VK) : Prop := ∀ p, H p = none → Q (.ref p) (upd H p (.dK []))
theorem tDNewK_eq {σ : L2.St} {H : Hp} {Q : VK} : tDNewK σ H Q = rDNewK H Q := rfl
def DKt (H : Hp) (a : Addr) (f : Key → Option V) (n : Nat) : Prop := ∃ kvs : List (Key × V), H a = some (.dK kvs) ∧ kvs.length ≤ n ∧ ∀ k, valV kvs k = f k
section
variable {H H1 : Hp} {a p : Addr} {Q : VK} {v : V} {k : Key} {n : Nat} {R : Hp → Prop}
theorem DKt.same {f : Key → Option V} (h : DKt H a f n) (s : Same H H1) : DKt H1 a f n := by
  obtain ⟨kvs, h1, h2, h3⟩ := h
  exact ⟨kvs, s _ _ h1, h2, h3⟩
theorem DKt.but {f : Key → Option V} (h : DKt H a f n) (s : But p H H1) (hn : a ≠ p) : DKt H1 a f n := by
  obtain ⟨kvs, h1, h2, h3⟩ := h
  exact ⟨kvs, s _ _ hn h1, h2, h3⟩
theorem DKt.ne {f : Key → Option V} (h : DKt H a f n) (hb : H p = none) : a ≠ p := by
  obtain ⟨kvs, h1, h2, h3⟩ := h
  rintro rfl
  rw [h1] at hb
  cases hb
theorem DKt.get {f : Key → Option V} (h : DKt H a f n) (k : Key) : DGet H a (kV k) (f k) := by
  obtain ⟨kvs, h1, h2, h3⟩ := h
  rw [← h3]
  exact DGet.k h1
end
/-! dict([((i, i), x) for i in range(n)]) -/
/-! ### the words, told -/
def wdV (W : Wd) : List V := (if W.pt then [Tx [112, 117, 116]] else []) ++ (if W.st then [Tx [115, 116, 114, 105, 107, 101]] else []) ++ (if W.tn then [Tx [116, 117, 114, 110]] else [])
def WdT (H : Hp) (v : V) (W : Wd) : Prop := ∃ a, v = .ref a ∧ H a = some (.tup (wdV W))
theorem WdT.same {H H' : Hp} {v : V} {W : Wd} (h : WdT H v W) (s : Same H H') : WdT H' v W := by
  obtain ⟨a, h1, h2⟩ := h
  exact ⟨a, h1, s _ _ h2⟩
theorem WdT.but {H H' : Hp} {v : V} {W : Wd} {p : Addr} {ys : List V} (h : WdT H v W) (s : But p H H') (hp : H p = some (.lst ys)) : WdT H' v W := by
  obtain ⟨a, h1, h2⟩ := h
  exact ⟨a, h1, s _ _ (fun e => by rw [e, hp] at h2; cases h2) h2⟩
theorem WdT.is {K : PySem.W.Frag} {H : Hp} {v : V} {W : Wd} (h : WdT H v W) : WdIs K H v W := by
  obtain ⟨a, h1, h2⟩ := h
  refine ⟨a, _, h1, st_of h2, ?_⟩
  obtain ⟨x, y, z⟩ := W
  cases x <;> cases y <;> cases z <;> exact ⟨by decide +kernel, by decide +kernel, by decide +kernel, by decide +kernel⟩
/-! ### the law's own table of least numbers by words -/
def Vl (W : Wd) (t : List Nat) (v : Int) : Prop := 0 ≤ v ∧ (∀ n : Nat, Mw W t n → v ≤ n) ∧ (v < 1000 → ∃ n : Nat, v = n ∧ Mw W t n)
theorem Mw.len {W : Wd} {l : List Nat} {n : Nat} (h : Mw W l n) : n ≤ l.length := by
  have t3 : ∀ x ∈ BRK, ∀ d ∈ BRK, tns x d ≤ 2 := by decide
  induction h with
  | nil => exact Nat.le_refl _
  | let_ _ _ ih => rw [List.length_cons]; omega
  | str _ _ _ ih => rw [List.length_cons]; omega
  | @pair x d a b u v hx hd ht _ _ i1 i2 =>
    have := t3 x hx d hd
    rw [List.length_cons, List.length_append, List.length_cons]
    omega
theorem Vl.nil {W : Wd} : Vl W [] 0 := ⟨Int.le_refl _, fun n _ => Int.natCast_nonneg n, fun _ => ⟨0, rfl, .nil⟩⟩
theorem Vl.let_ {W : Wd} {x : Nat} {r : List Nat} {v : Int} (hx : x ∉ BRK) (h : Vl W r v) : Vl W (x :: r) v := by
  obtain ⟨h0, h1, h2⟩ := h
  refine ⟨h0, fun n hn => ?_, fun hv => ?_⟩
  · cases hn with
    | let_ _ hr => exact h1 _ hr
    | str hb _ _ => exact absurd hb hx
    | pair hb _ _ _ _ => exact absurd hb hx
  · obtain ⟨n, e1, e2⟩ := h2 hv
    exact ⟨n, e1, .let_ hx e2⟩
/-- a list of numbers that first steps lead to, looked at below m -/
structure Vs (W : Wd) (x : Nat) (r : List Nat) (m : Nat) (ns : List Int) : Prop where
  ne : ns ≠ []
  sound : ∀ v ∈ ns, 0 ≤ v ∧ (v < 1000 → ∃ n : Nat, v = n ∧ Mw W (x :: r) n)
  str : W.pt = true ∨ W.st = true → ∀ n : Nat, Mw W r n → ∃ v ∈ ns, v ≤ n + 1
  pair : ∀ (d a b : Nat) (u w : List Nat), r = u ++ d :: w → u.length < m → d ∈ BRK → tns x d = 0 ∨ W.tn = true → Mw W u a → Mw W w b → ∃ v ∈ ns, v ≤ ((tns x d + a + b : Nat) : Int)
theorem Vs.skip {W : Wd} {x : Nat} {r : List Nat} {m : Nat} {ns : List Int} {d : Nat} (h : Vs W x r m ns) (hd : r[m]? = some d) (hn : ¬ (d ∈ BRK ∧ (tns x d = 0 ∨ W.tn = true))) : Vs W x r (m + 1) ns := by
  refine ⟨h.ne, h.sound, h.str, fun d' a b u w e hu hd' ht ha hb => ?_⟩
  by_cases hm : u.length < m
  · exact h.pair d' a b u w e hm hd' ht ha hb
  · have : u.length = m := by omega
    have e2 : r[m]? = some d' := by rw [e, ← this]; simp
    rw [hd] at e2
    injection e2 with e2
    subst e2
    exact absurd ⟨hd', ht⟩ hn
theorem Vs.step {W : Wd} {x : Nat} {r : List Nat} {m : Nat} {ns : List Int} {d : Nat} {v1 v2 : Int} (h : Vs W x r m ns) (hx : x ∈ BRK) (hd : r[m]? = some d) (hdb : d ∈ BRK) (ht : tns x d = 0 ∨ W.tn = true) (k1 : Vl W (r.take m) v1) (k2 : Vl W (r.drop (m + 1)) v2) : Vs W x r (m + 1) (ns ++ [(tns x d : Int) + v1 + v2]) := by
  have hlt : m < r.length := (List.getElem?_eq_some_iff.mp hd).1
  have er : r = r.take m ++ d :: r.drop (m + 1) := by
    have hg : r[m] = d := (List.getElem?_eq_some_iff.mp hd).2
    rw [← hg, List.getElem_cons_drop]
    exact (List.take_append_drop m r).symm
  obtain ⟨a0, a1, a2⟩ := k1
  obtain ⟨b0, b1, b2⟩ := k2
  refine ⟨by simp, fun y hy => ?_, fun hW n hn => ?_, fun d' a b u w e hu hd' ht' ha hb => ?_⟩
  · rcases List.mem_append.mp hy with hy | hy
    · exact h.sound y hy
    · simp at hy
      subst hy
      refine ⟨by omega, fun hl => ?_⟩
      obtain ⟨n1, e1, f1⟩ := a2 (by omega)
      obtain ⟨n2, e2, f2⟩ := b2 (by omega)
      refine ⟨tns x d + n1 + n2, by omega, ?_⟩
      rw [er]
      exact .pair hx hdb ht f1 f2
  · obtain ⟨y, y1, y2⟩ := h.str hW n hn
    exact ⟨y, List.mem_append_left _ y1, y2⟩
  · by_cases hm : u.length < m
    · obtain ⟨y, y1, y2⟩ := h.pair d' a b u w e hm hd' ht' ha hb
      exact ⟨y, List.mem_append_left _ y1, y2⟩
    · have hul : u.length = m := by omega
      have e2 : r[m]? = some d' := by rw [e, ← hul]; simp
      rw [hd] at e2
      injection e2 with e2
      subst e2
      have eu : u = r.take m := by rw [e, ← hul]; simp
      have ew : w = r.drop (m + 1) := by rw [e, ← hul]; simp
      refine ⟨_, List.mem_append_right _ (List.mem_singleton.mpr rfl), ?_⟩
      have := a1 a (eu ▸ ha)
      have := b1 b (ew ▸ hb)
      omega
theorem Vs.fin {W : Wd} {x : Nat} {r : List Nat} {ns : List Int} {v : Int} (hx : x ∈ BRK) (h : Vs W x r r.length ns) (h1 : v ∈ ns) (h2 : ∀ y ∈ ns, v ≤ y) : Vl W (x :: r) v := by
  obtain ⟨s1, s2⟩ := h.sound v h1
  refine ⟨s1, fun n hn => ?_, s2⟩
  cases hn with
  | let_ hb _ => exact absurd hx hb
  | str _ hW hr =>
    obtain ⟨y, y1, y2⟩ := h.str hW _ hr
    have := h2 y y1
    omega
  | @pair _ d a b u w hx' hd ht ha hb =>
    obtain ⟨y, y1, y2⟩ := h.pair d a b u w rfl (by simp) hd ht ha hb
    have := h2 y y1
    omega
end Ly

set_option maxHeartbeats 4000000
namespace Ly
open PySem PySem.Spec PyProof.Rows L2 SX
/-! ### rows of deeds, place by place, as the law counts them -/
/-! how many keys there can be -/
theorem nodup_len {α : Type} [DecidableEq α] : ∀ (l m : List α), l.Nodup → (∀ x ∈ l, x ∈ m) → l.length ≤ m.length
  | [], m, _, _ => Nat.zero_le _
  | x :: l, m, hn, hs => by
    obtain ⟨h1, h2⟩ := List.nodup_cons.mp hn
    have hx : x ∈ m := hs x (List.mem_cons_self ..)
    have ih := nodup_len l (m.erase x) h2 fun y hy => by
      have hne : y ≠ x := fun e => h1 (e ▸ hy)
      exact (List.mem_erase_of_ne hne).mpr (hs y (List.mem_cons_of_mem _ hy))
    rw [List.length_erase_of_mem hx] at ih
    have : 0 < m.length := List.length_pos_of_mem hx
    rw [List.length_cons]
    omega
def stks : Nat → List (List Nat)
  | 0 => [[]]
  | n + 1 => [] :: CLO.flatMap fun c => (stks n).map (c :: ·)
theorem stks_len : ∀ n, (stks n).length ≤ 5 ^ n
  | 0 => Nat.le_refl _
  | n + 1 => by
    have ih := stks_len n
    rw [stks, List.length_cons, List.length_flatMap]
    have e : CLO.map (fun c => ((stks n).map (c :: ·)).length) = CLO.map fun _ => (stks n).length := List.map_congr_left fun c _ => List.length_map _
    rw [e]
    show (stks n).length + ((stks n).length + ((stks n).length + ((stks n).length + 0))) + 1 ≤ 5 ^ (n + 1)
    have h1 : 1 ≤ 5 ^ n := Nat.one_le_pow _ _ (by decide)
    rw [Nat.pow_succ]
    omega
theorem stks_mem : ∀ (n : Nat) (s : List Nat), s.length ≤ n → (∀ c ∈ s, c ∈ CLO) → s ∈ stks n
  | 0, s, h, _ => by
    have : s = [] := List.length_eq_zero_iff.mp (by omega)
    rw [this, stks]
    exact List.mem_cons_self ..
  | n + 1, [], _, _ => List.mem_cons_self ..
  | n + 1, c :: s, h, hc => by
    rw [stks]
    refine List.mem_cons_of_mem _ (List.mem_flatMap.mpr ⟨c, hc c (List.mem_cons_self ..), List.mem_map.mpr ⟨s, stks_mem n s (by rw [List.length_cons] at h; omega) (fun x hx => hc x (List.mem_cons_of_mem _ hx)), rfl⟩⟩)
def kyOf (i : Nat) (st : List Nat) (n : Nat) : List Key := [.inl (i : Int), .inr (S st.reverse), .inl (n : Int)]
theorem kyOf_inj {i j n m : Nat} {s t : List Nat} (h : kyOf i s n = kyOf j t m) : i = j ∧ s = t ∧ n = m := by
  unfold kyOf at h
  injection h with h1 h2
  injection h2 with h2 h3
  injection h3 with h3 _
  have e1 := Sum.inl.inj h1
  have e2 := Sum.inr.inj h2
  have e3 := Sum.inl.inj h3
  have e4 : s.reverse = t.reverse := Tx_inj.mp (congrArg V.str e2)
  exact ⟨by omega, by rw [← List.reverse_reverse s, e4, List.reverse_reverse], by omega⟩
def allK : List (List Key) := (List.range 5).flatMap fun i => (stks 8).flatMap fun s => (List.range 5).map fun n => kyOf i s n
theorem flat_len {α β : Type} {f : α → List β} {b : Nat} : ∀ l : List α, (∀ x ∈ l, (f x).length ≤ b) → (l.flatMap f).length ≤ l.length * b
  | [], _ => by simp
  | x :: l, h => by
    have ih := flat_len l fun y hy => h y (List.mem_cons_of_mem _ hy)
    have hx := h x (List.mem_cons_self ..)
    rw [List.flatMap_cons, List.length_append, List.length_cons, Nat.succ_mul]
    omega
theorem allK_len : allK.length ≤ 9765625 := by
  unfold allK
  refine Nat.le_trans (flat_len (b := 5 ^ 8 * 5) _ fun i _ => Nat.le_trans (flat_len (b := 5) _ fun s _ => by rw [List.length_map, List.length_range]; exact Nat.le_refl _) (Nat.mul_le_mul_right _ (stks_len 8))) ?_
  rw [List.length_range]
  decide
theorem allK_mem {i n : Nat} {s : List Nat} (hi : i ≤ 4) (hn : n ≤ 4) (hs : s.length ≤ 8) (hc : ∀ c ∈ s, c ∈ CLO) : kyOf i s n ∈ allK :=
  List.mem_flatMap.mpr ⟨i, List.mem_range.mpr (by omega), List.mem_flatMap.mpr ⟨s, stks_mem 8 s hs hc, List.mem_map.mpr ⟨n, List.mem_range.mpr (by omega), rfl⟩⟩⟩
/-- what is known -/
structure Kn (H : Hp) (a : Addr) (W : Wd) (l : List Nat) (kvs : List (List Key × V)) : Prop where
  ob : H a = some (.dT kvs)
  nd : (kvs.map (·.1)).Nodup
  ok : ∀ p ∈ kvs, ∃ (i : Nat) (st : List Nat) (n : Nat), p.1 = kyOf i st n ∧ i ≤ 4 ∧ n ≤ 4 ∧ st.length ≤ 8 ∧ (∀ c ∈ st, c ∈ CLO) ∧ p.2 = .int (An W st (l.drop i) n)
theorem Kn.len {H : Hp} {a : Addr} {W : Wd} {l : List Nat} {kvs : List (List Key × V)} (h : Kn H a W l kvs) : kvs.length ≤ 9765625 := by
  have h1 := nodup_len _ allK h.nd fun x hx => by
    obtain ⟨p, hp, rfl⟩ := List.mem_map.mp hx
    obtain ⟨i, st, n, e, k1, k2, k3, k4, _⟩ := h.ok p hp
    rw [e]
    exact allK_mem k1 k2 k3 k4
  rw [List.length_map] at h1
  exact Nat.le_trans h1 allK_len
theorem valV_mem {κ : Type} [DecidableEq κ] {k : κ} {v : V} : ∀ {kvs : List (κ × V)}, valV kvs k = some v → (k, v) ∈ kvs
  | [], h => by cases h
  | p :: r, h => by
    by_cases e : p.1 = k
    · rw [valV_pos e] at h
      injection h with h
      rw [← e, ← h]
      exact List.mem_cons_self ..
    · rw [valV_neg e] at h
      exact List.mem_cons_of_mem _ (valV_mem h)
theorem Kn.get {H : Hp} {a : Addr} {W : Wd} {l : List Nat} {kvs : List (List Key × V)} (h : Kn H a W l kvs) {i n : Nat} {st : List Nat} {v : V} (hv : valV kvs (kyOf i st n) = some v) : v = .int (An W st (l.drop i) n) := by
  obtain ⟨i', st', n', e, _, _, _, _, e2⟩ := h.ok _ (valV_mem hv)
  obtain ⟨rfl, rfl, rfl⟩ := kyOf_inj e
  exact e2
theorem putK_fst {κ : Type} [DecidableEq κ] (kvs : List (κ × V)) (k : κ) (v : V) : (putK kvs k v).map (·.1) = if k ∈ kvs.map (·.1) then kvs.map (·.1) else kvs.map (·.1) ++ [k] := by
  unfold putK
  by_cases h : k ∈ kvs.map (·.1)
  · rw [if_pos h, if_pos (by
      obtain ⟨p, hp, e⟩ := List.mem_map.mp h
      exact List.any_eq_true.mpr ⟨p, hp, by simpa using e⟩), List.map_map]
    refine List.map_congr_left fun p _ => ?_
    show (if p.1 = k then (p.1, v) else p).1 = p.1
    split <;> rfl
  · rw [if_neg h, if_neg (fun q => h (by
      obtain ⟨p, hp, e⟩ := List.any_eq_true.mp q
      exact List.mem_map.mpr ⟨p, hp, by simpa using e⟩)), List.map_append]
    rfl
theorem putK_mem {κ : Type} [DecidableEq κ] {kvs : List (κ × V)} {k : κ} {v : V} {p : κ × V} (h : p ∈ putK kvs k v) : p ∈ kvs ∨ p = (k, v) := by
  unfold putK at h
  split at h
  · obtain ⟨q, hq, e⟩ := List.mem_map.mp h
    split at e
    · rename_i e'
      exact .inr (by rw [← e, e'])
    · exact .inl (e ▸ hq)
  · rcases List.mem_append.mp h with h | h
    · exact .inl h
    · exact .inr (List.mem_singleton.mp h)
theorem Kn.put {H H1 : Hp} {a : Addr} {W : Wd} {l : List Nat} {kvs : List (List Key × V)} {i n : Nat} {st : List Nat} (h : Kn H a W l kvs) (hi : i ≤ 4) (hn : n ≤ 4) (hs : st.length ≤ 8) (hc : ∀ c ∈ st, c ∈ CLO) (e : H1 a = some (.dT (putK kvs (kyOf i st n) (.int (An W st (l.drop i) n))))) : Kn H1 a W l (putK kvs (kyOf i st n) (.int (An W st (l.drop i) n))) := by
  refine ⟨e, ?_, fun p hp => ?_⟩
  · rw [putK_fst]
    by_cases hm : kyOf i st n ∈ kvs.map (·.1)
    · rw [if_pos hm]; exact h.nd
    · rw [if_neg hm, List.nodup_append]
      refine ⟨h.nd, by simp, fun x hx y hy => ?_⟩
      rw [List.mem_singleton.mp hy]
      exact fun q => hm (q ▸ hx)
  · rcases putK_mem hp with hp | rfl
    · exact h.ok p hp
    · exact ⟨i, st, n, rfl, hi, hn, hs, hc, rfl⟩
theorem Kn.same {H H1 : Hp} {a : Addr} {W : Wd} {l : List Nat} {kvs : List (List Key × V)} (h : Kn H a W l kvs) (s : Same H H1) : Kn H1 a W l kvs := ⟨s _ _ h.ob, h.nd, h.ok⟩
/-! the least number, tried one by one -/
end Ly

set_option maxHeartbeats 4000000
namespace Ly
open PySem PySem.Spec PyProof.Rows L2 SX
/-! ### counted by their ends, with a great number where there are none -/
def En (x : MC) (e : Int × Int) : Prop := match x with
  | none => 1000 ≤ e.1 ∧ e.2 = 0
  | some p => e = ((p.1 : Int), (p.2 : Int))
def Bt (x : MC) (e : Int × Int) : Prop := match x with
  | none => e = (1000, 0)
  | some p => e = ((p.1 : Int), (p.2 : Int))
theorem Bt.en {x : MC} {e : Int × Int} (h : Bt x e) : En x e := by
  cases x with
  | none => rw [show e = (1000, 0) from h]; exact ⟨Int.le_refl _, rfl⟩
  | some p => exact h
/-! the least of a list, and how often -/
end Ly

set_option maxHeartbeats 4000000
namespace Ly
open PySem PySem.Spec PyProof.Rows L2 SX
/-! ### set(xs) of a list of ints, and its numbers sorted -/
section
variable {P : Program} {w : World} {A : Around} {E : Value → Shared → Prop} {s : Shared}
end
section
variable {X : Cx}
end
end Ly

set_option maxHeartbeats 4000000
namespace Ly
open PySem PySem.Spec PyProof.Rows L2 SX
/-! ### s.partition(' ') -/
end Ly

set_option maxHeartbeats 4000000
namespace Ly
open PySem PySem.Spec PyProof.Rows L2
/-! ### data of any kind in heaps, empty dicts too -/
mutual
inductive Dx (H : Hp) : V → PyData → Prop
  | non : Dx H .non .none
  | bl (b : Bool) : Dx H (.bl b) (.bool b)
  | int (i : Int) : Dx H (.int i) (.int i)
  | str (x : Str) : Dx H (.str x) (.str x)
  | lst {a : Addr} {xs : List V} {ds : List PyData} : H a = some (.lst xs) → DxAll H xs ds → Dx H (.ref a) (.list ds)
  | tup {a : Addr} {xs : List V} {ds : List PyData} : H a = some (.tup xs) → DxAll H xs ds → Dx H (.ref a) (.tuple ds)
  | dic {a : Addr} : H a = some (.dK []) → Dx H (.ref a) (.dict [])
inductive DxAll (H : Hp) : List V → List PyData → Prop
  | nil : DxAll H [] []
  | cons {v : V} {vs : List V} {d : PyData} {ds : List PyData} : Dx H v d → DxAll H vs ds → DxAll H (v :: vs) (d :: ds)
end
theorem DxAll.length {H : Hp} : ∀ {vs : List V} {ds : List PyData}, DxAll H vs ds → vs.length = ds.length
  | _, _, .nil => rfl
  | _, _, .cons _ h => by rw [List.length_cons, List.length_cons, h.length]
theorem DxAll.get {H : Hp} : ∀ {vs : List V} {ds : List PyData} {i : Nat} {v : V} {d : PyData}, DxAll H vs ds → vs[i]? = some v → ds[i]? = some d → Dx H v d
  | _, _, _, _, _, .nil, h, _ => by simp at h
  | _, _, 0, _, _, .cons h _, h1, h2 => by
    have e1 := Option.some.inj h1
    have e2 := Option.some.inj h2
    rw [← e1, ← e2]
    exact h
  | _, _, i + 1, _, _, .cons _ hs, h1, h2 => hs.get (i := i) h1 h2
theorem DxAll.append {H : Hp} : ∀ {vs ws : List V} {ds es : List PyData}, DxAll H vs ds → DxAll H ws es → DxAll H (vs ++ ws) (ds ++ es)
  | _, _, _, _, .nil, h => h
  | _, _, _, _, .cons h hs, h' => .cons h (hs.append h')
theorem DxAll.of {H : Hp} : ∀ {vs : List V} {ds : List PyData}, vs.length = ds.length → (∀ (i : Nat) (v : V) (d : PyData), vs[i]? = some v → ds[i]? = some d → Dx H v d) → DxAll H vs ds
  | [], [], _, _ => .nil
  | [], _ :: _, h, _ => by simp at h
  | _ :: _, [], h, _ => by simp at h
  | v :: vs, d :: ds, h, g => .cons (g 0 v d rfl rfl) (DxAll.of (by simpa using h) fun i v d h1 h2 => g (i + 1) v d h1 h2)
mutual
theorem dx_same {H H' : Hp} (s : ∀ b o, H b = some o → H' b = some o) : ∀ {v : V} {d : PyData}, Dx H v d → Dx H' v d
  | _, _, .non => .non
  | _, _, .bl b => .bl b
  | _, _, .int i => .int i
  | _, _, .str l => .str l
  | _, _, .lst h hs => .lst (s _ _ h) (dxs_same s hs)
  | _, _, .tup h hs => .tup (s _ _ h) (dxs_same s hs)
  | _, _, .dic h => .dic (s _ _ h)
theorem dxs_same {H H' : Hp} (s : ∀ b o, H b = some o → H' b = some o) : ∀ {vs : List V} {ds : List PyData}, DxAll H vs ds → DxAll H' vs ds
  | _, _, .nil => .nil
  | _, _, .cons h hs => .cons (dx_same s h) (dxs_same s hs)
end
section
variable {X : Cx} {pins : List (Addr × Obj)} {σ : L2.St} {H : Hp} {s : Shared}
end
end Ly

set_option maxHeartbeats 4000000
namespace Ly
open PySem PySem.Spec PyProof.Rows L2 SX
/-! ### kinds of things -/
section
variable {K : PySem.W.Frag} {H : Hp} {Q : VK} {v : V} {d : PyData}
end
/-! ### the size of things -/
def nbK : Nat → Nat
  | 3 => 200
  | 2 => 45
  | 1 => 4
  | _ => 0
mutual
def nc : Nat → PyData → Bool
  | _, .none => true
  | _, .bool _ => true
  | _, .int i => decide (i.natAbs < 10 ^ 100)
  | _, .str s => decide (s.length ≤ 20) && s.cps.toList.all fun c => decide (c < 1114112)
  | k + 1, .list ds => decide (ds.length ≤ nbK (k + 1)) && ncA k ds
  | k + 1, .tuple ds => decide (ds.length ≤ nbK (k + 1)) && ncA k ds
  | 0, .list ds => ds.isEmpty
  | 0, .tuple ds => ds.isEmpty
  | _, .dict ds => ds.isEmpty
def ncA : Nat → List PyData → Bool
  | _, [] => true
  | k, d :: ds => nc k d && ncA k ds
end
theorem ncA_app {k : Nat} : ∀ {ds es : List PyData}, ncA k (ds ++ es) = (ncA k ds && ncA k es)
  | [], es => by rw [List.nil_append, ncA, Bool.true_and]
  | d :: ds, es => by rw [List.cons_append, ncA, ncA, ncA_app, Bool.and_assoc]
theorem ncA_mem {k : Nat} {ds : List PyData} : ncA k ds = true ↔ ∀ d ∈ ds, nc k d = true := by
  induction ds with
  | nil => exact ⟨fun _ d h => (by cases h), fun _ => rfl⟩
  | cons d ds ih =>
    rw [ncA, Bool.and_eq_true, ih]
    constructor
    · rintro ⟨h1, h2⟩ e he
      rcases List.mem_cons.mp he with rfl | he
      · exact h1
      · exact h2 e he
    · exact fun h => ⟨h d (List.mem_cons_self ..), fun e he => h e (List.mem_cons_of_mem _ he)⟩
section
variable {X : Cx}
end
/-! ### deeds among things -/
theorem Dds.dx {H : Hp} {a : Addr} {rs : List Addr} {ds : List Deed} (h : Dds H a rs ds) : Dx H (.ref a) (ddsD ds) := by
  refine .lst h.hd (.of (by rw [List.length_map, List.length_map]; exact h.len) fun k v d h1 h2 => ?_)
  rw [List.getElem?_map] at h1 h2
  cases e1 : rs[k]? with
  | none => rw [e1] at h1; cases h1
  | some r =>
    cases e2 : ds[k]? with
    | none => rw [e2] at h2; cases h2
    | some e =>
      rw [e1] at h1
      rw [e2] at h2
      rw [← Option.some.inj h1, ← Option.some.inj h2]
      exact .tup (h.it k r e e1 e2) (.cons (.int _) (.cons (.str _) (.cons (.str _) .nil)))
end Ly

set_option maxHeartbeats 4000000
namespace Ly
open PySem PySem.Spec PyProof.Rows L2 SX
/-! ### readings that tell things -/
/-- the heap without ps -/
def del (ps : List Addr) (H : Hp) : Hp := fun x => if x ∈ ps then none else H x
/-- all of ps stand -/
def Std (ps : List Addr) (H : Hp) : Prop := ∀ p ∈ ps, ∃ o, H p = some o
section
variable {q a b : Addr} {p : List Addr} {o : HO} {H H' H1 : Hp} {v : V} {d : PyData} {vs : List V} {ds : List PyData}
theorem Std.nil : Std [] H := fun _ h => by cases h
theorem Std.cons (h : H a = some o) (hs : Std p H) : Std (a :: p) H := fun x hx => by
  rcases List.mem_cons.mp hx with rfl | hx
  · exact ⟨_, h⟩
  · exact hs x hx
theorem Std.sm (h : Std p H) (s : Same H H') : Std p H' := fun x hx => let ⟨o, e⟩ := h x hx; ⟨o, s _ _ e⟩
theorem Std.new (h : Std p H) (nb : H b = none) : b ∉ p := fun hb => by
  obtain ⟨o, e⟩ := h b hb
  rw [nb] at e
  cases e
theorem del_get (n : a ∉ p) (h : H a = some o) : del p H a = some o := by unfold del; rw [if_neg n]; exact h
theorem del_un (h : del p H a = some o) : H a = some o ∧ a ∉ p := by
  unfold del at h
  by_cases e : a ∈ p
  · rw [if_pos e] at h; cases h
  · rw [if_neg e] at h; exact ⟨h, e⟩
theorem del_but (hq : q ∈ p) (s : But q H H') : ∀ b o, del p H b = some o → del p H' b = some o := fun b o h => del_get (del_un h).2 (s b o (fun e => (del_un h).2 (e ▸ hq)) (del_un h).1)
theorem del_same (s : Same H H') : ∀ b o, del p H b = some o → del p H' b = some o := fun b o h => del_get (del_un h).2 (s b o (del_un h).1)
theorem del_tl : ∀ c o, del (b :: p) H c = some o → del p H c = some o := fun c o h => del_get (fun hc => (del_un h).2 (List.mem_cons_of_mem _ hc)) (del_un h).1
theorem Dx.tl (h : Dx (del (b :: p) H) v d) : Dx (del p H) v d := dx_same del_tl h
theorem DxAll.tl (h : DxAll (del (b :: p) H) vs ds) : DxAll (del p H) vs ds := dxs_same del_tl h
theorem Dx.un (h : Dx (del p H) v d) : Dx H v d := dx_same (fun b o h => (del_un h).1) h
theorem DxAll.un (h : DxAll (del p H) vs ds) : DxAll H vs ds := dxs_same (fun b o h => (del_un h).1) h
theorem Dx.sm (h : Dx (del p H) v d) (s : Same H H') : Dx (del p H') v d := dx_same (del_same s) h
theorem Dx.bt (h : Dx (del p H) v d) (s : But q H H') (hq : q ∈ p := by simp) : Dx (del p H') v d := dx_same (del_but hq s) h
theorem DxAll.sm (h : DxAll (del p H) vs ds) (s : Same H H') : DxAll (del p H') vs ds := dxs_same (del_same s) h
theorem DxAll.bt (h : DxAll (del p H) vs ds) (s : But q H H') (hq : q ∈ p := by simp) : DxAll (del p H') vs ds := dxs_same (del_but hq s) h
theorem dxa_take {n : Nat} : ∀ {vs : List V} {ds : List PyData}, DxAll H vs ds → DxAll H (vs.take n) (ds.take n) := by
  induction n with
  | zero => intro vs ds _; exact .nil
  | succ n ih =>
    intro vs ds h
    cases h with
    | nil => exact .nil
    | cons h hs => exact .cons h (ih hs)
theorem dxa_drop {n : Nat} : ∀ {vs : List V} {ds : List PyData}, DxAll H vs ds → DxAll H (vs.drop n) (ds.drop n) := by
  induction n with
  | zero => intro vs ds h; exact h
  | succ n ih =>
    intro vs ds h
    cases h with
    | nil => exact .nil
    | cons h hs => exact ih hs
theorem dxa_set {d : PyData} {v : V} (hv : Dx H v d) : ∀ {vs : List V} {ds : List PyData} {n : Nat}, DxAll H vs ds → DxAll H (vs.set n v) (ds.set n d)
  | _, _, _, .nil => .nil
  | _, _, 0, .cons h hs => .cons hv hs
  | _, _, n + 1, .cons h hs => .cons h (dxa_set hv hs)
theorem dxa_rev : ∀ {vs : List V} {ds : List PyData}, DxAll H vs ds → DxAll H vs.reverse ds.reverse
  | _, _, .nil => .nil
  | _, _, .cons h hs => by rw [List.reverse_cons, List.reverse_cons]; exact (dxa_rev hs).append (.cons h .nil)
theorem dxa_rep {n : Nat} (h : DxAll H vs ds) : DxAll H (List.replicate n vs).flatten (List.replicate n ds).flatten := by
  induction n with
  | zero => exact .nil
  | succ n ih => rw [List.replicate_succ, List.replicate_succ, List.flatten_cons, List.flatten_cons]; exact h.append ih
end
def cutL {α : Type} (xs : List α) (lo hi : Option Int) : List α := (xs.drop (HT.sIx xs.length 0 lo)).take (HT.sIx xs.length xs.length hi - HT.sIx xs.length 0 lo)
theorem dxa_cut {H : Hp} {vs : List V} {ds : List PyData} {lo hi : Option Int} (h : DxAll H vs ds) : DxAll H (cutV vs lo hi) (cutL ds lo hi) := by
  show DxAll H ((vs.drop (HT.sIx vs.length 0 lo)).take (HT.sIx vs.length vs.length hi - HT.sIx vs.length 0 lo)) _
  unfold cutL
  rw [h.length]
  exact dxa_take (dxa_drop h)
theorem cutL_from {α : Type} {xs : List α} {i : Nat} : cutL xs (some (i : Int)) none = xs.drop i := by
  unfold cutL
  have e1 : HT.sIx xs.length 0 (some (i : Int)) = min i xs.length := by unfold HT.sIx; simp; omega
  have e2 : HT.sIx xs.length xs.length none = xs.length := by unfold HT.sIx; simp
  rw [e1, e2, List.take_of_length_le (by rw [List.length_drop]; exact Nat.le_refl _)]
  by_cases h : i ≤ xs.length
  · rw [Nat.min_eq_left h]
  · rw [Nat.min_eq_right (by omega), List.drop_eq_nil_of_le (Nat.le_refl _), List.drop_eq_nil_of_le (by omega)]
theorem cutL_to {α : Type} {xs : List α} {i : Nat} : cutL xs none (some (i : Int)) = xs.take i := by
  unfold cutL
  have e1 : HT.sIx xs.length xs.length (some (i : Int)) = min i xs.length := by unfold HT.sIx; simp; omega
  have e2 : HT.sIx xs.length 0 none = 0 := by unfold HT.sIx; simp
  rw [e1, e2, List.drop_zero, Nat.sub_zero]
  by_cases h : i ≤ xs.length
  · rw [Nat.min_eq_left h]
  · rw [Nat.min_eq_right (by omega), List.take_of_length_le (Nat.le_refl _), List.take_of_length_le (by omega)]
def Rd (p : List Addr) (t : TE) (σ : L2.St) (H : Hp) (d : PyData) : Prop := ∀ (H1 : Hp) (Q : VK), Same H H1 → (∀ v H2, Same H1 H2 → Dx (del p H2) v d → Q v H2) → t σ H1 Q
def RdA (p : List Addr) (t : TA) (σ : L2.St) (H : Hp) (ds : List PyData) : Prop := ∀ (H1 : Hp) (Q : List V → Hp → Prop), Same H H1 → (∀ vs H2, Same H1 H2 → DxAll (del p H2) vs ds → Q vs H2) → t σ H1 Q
def RdO (p : List Addr) (t : TO) (σ : L2.St) (H : Hp) (o : Option Int) : Prop := ∀ (H1 : Hp) (Q : Option Int → Hp → Prop), Same H H1 → (∀ H2, Same H1 H2 → Q o H2) → t σ H1 Q
section
variable {p : List Addr} {a : Addr} {t ta tb : TE} {ts : TA} {tl th : TO} {σ : L2.St} {H : Hp} {d e : PyData} {ds es : List PyData} {n : Nat} {v : V} {K : PySem.W.Frag} {i j : Int} {lo hi : Option Int}
theorem Rd.go {Q : VK} (h : Rd p t σ H d) (q : ∀ v H2, Same H H2 → Dx (del p H2) v d → Q v H2) : t σ H Q := h H Q (Same.refl _) q
theorem RdA.go {Q : List V → Hp → Prop} (h : RdA p ts σ H ds) (q : ∀ vs H2, Same H H2 → DxAll (del p H2) vs ds → Q vs H2) : ts σ H Q := h H Q (Same.refl _) q
theorem rd_int : Rd p (tC (.int i)) σ H (.int i) := fun H1 Q s q => q _ _ (Same.refl _) (.int i)
theorem rd_str {x : Str} : Rd p (tC (.str x)) σ H (.str x) := fun H1 Q s q => q _ _ (Same.refl _) (.str x)
theorem rd_bl {b : Bool} : Rd p (tC (.bl b)) σ H (.bool b) := fun H1 Q s q => q _ _ (Same.refl _) (.bl b)
theorem rd_non : Rd p (tC .non) σ H .none := fun H1 Q s q => q _ _ (Same.refl _) .non
theorem rd_var (h : σ[n]? = some (some v)) (hd : Dx (del p H) v d) : Rd p (tVar n) σ H d := fun H1 Q s q => ⟨v, h, q _ _ (Same.refl _) (hd.sm s)⟩
theorem rda_nil : RdA p tNil σ H [] := fun H1 Q s q => q _ _ (Same.refl _) .nil
theorem rda_cons (h1 : Rd p ta σ H d) (h2 : RdA p ts σ H ds) : RdA p (tCons ta ts) σ H (d :: ds) := fun H1 Q s q =>
  h1 H1 _ s fun v H2 s2 hv => h2 H2 _ (s.trans s2) fun vs H3 s3 hvs => q _ _ (s2.trans s3) (.cons (hv.sm s3) hvs)
theorem rd_tup (hp : Std p H) (h : RdA p ts σ H ds) (hl : ds.length ≤ 100000) : Rd p (tTup ts) σ H (.tuple ds) := fun H1 Q s q =>
  h H1 _ s fun vs H2 s2 hvs => ⟨by rw [hvs.length]; exact Nat.le_trans hl (by decide), fun b nb => by
    exact q _ _ (s2.trans (Same.new nb)) (.tup (del_get (Std.new (Std.sm (Std.sm hp s) s2) nb) upd_same) (hvs.sm (Same.new nb)))⟩
theorem rd_lst (hp : Std p H) (h : RdA p ts σ H ds) (hl : ds.length ≤ 100000) : Rd p (tLst ts) σ H (.list ds) := fun H1 Q s q =>
  h H1 _ s fun vs H2 s2 hvs => ⟨by rw [hvs.length]; exact Nat.le_trans hl (by decide), fun b nb => by
    exact q _ _ (s2.trans (Same.new nb)) (.lst (del_get (Std.new (Std.sm (Std.sm hp s) s2) nb) upd_same) (hvs.sm (Same.new nb)))⟩
theorem rd_dic (hp : Std p H) : Rd p tDNewK σ H (.dict []) := fun H1 Q s q => fun b nb => by
  exact q _ _ (Same.new nb) (.dic (del_get (Std.new (Std.sm hp s) nb) upd_same))
theorem rd_cat (hp : Std p H) (h1 : Rd p ta σ H (.list ds)) (h2 : Rd p tb σ H (.list es)) (hl : ds.length + es.length ≤ 100000) : Rd p (tOp rCat ta tb) σ H (.list (ds ++ es)) := fun H1 Q s q =>
  h1 H1 _ s fun v H2 s2 hv => h2 H2 _ (s.trans s2) fun w H3 s3 hw => by
    have hv := hv.sm s3
    cases hv with
    | lst k1 k2 =>
      cases hw with
      | lst k3 k4 =>
        refine g_cat (del_un k1).1 (del_un k3).1 (by rw [k2.length, k4.length]; exact hl) fun b H4 nb s4 eb => ?_
        exact q _ _ (s2.trans (s3.trans s4)) (.lst (del_get (Std.new (Std.sm (Std.sm (Std.sm hp s) s2) s3) nb) eb) ((k2.append k4).sm s4))
theorem rd_rep {m : Nat} (hp : Std p H) (h1 : Rd p ta σ H (.list ds)) (h2 : Rd p tb σ H (.int (m : Int))) (hl : ds.length * m ≤ 100000 ∧ m ≤ 100000) : Rd p (tOp rRep ta tb) σ H (.list (List.replicate m ds).flatten) := fun H1 Q s q =>
  h1 H1 _ s fun v H2 s2 hv => h2 H2 _ (s.trans s2) fun w H3 s3 hw => by
    have hv := hv.sm s3
    cases hw with
    | int _ =>
      cases hv with
      | lst k1 k2 =>
        refine g_rep (del_un k1).1 (by rw [k2.length]; exact hl.1) hl.2 fun b H4 nb s4 eb => ?_
        exact q _ _ (s2.trans (s3.trans s4)) (.lst (del_get (Std.new (Std.sm (Std.sm (Std.sm hp s) s2) s3) nb) eb) ((dxa_rep k2).sm s4))
theorem rd_rev (hp : Std p H) (h1 : Rd p ta σ H (.list ds)) : Rd p (tRevL K ta) σ H (.list ds.reverse) := fun H1 Q s q =>
  h1 H1 _ s fun v H2 s2 hv => by
    cases hv with
    | lst k1 k2 =>
      refine g_revL (sq_of (del_un k1).1) fun b H4 nb s4 eb => ?_
      exact q _ _ (s2.trans s4) (.lst (del_get (Std.new (Std.sm (Std.sm hp s) s2) nb) eb) ((dxa_rev k2).sm s4))
theorem rdo_none : RdO p tNoPart σ H none := fun H1 Q s q => q _ (Same.refl _)
theorem rdo_some (h : Rd p ta σ H (.int i)) : RdO p (tPart ta) σ H (some i) := fun H1 Q s q => h H1 _ s fun v H2 s2 hv => by
  cases hv
  exact ⟨i, rfl, q _ s2⟩
theorem rd_cut (hp : Std p H) (h1 : Rd p ta σ H (.list ds)) (hlo : RdO p tl σ H lo) (hhi : RdO p th σ H hi) : Rd p (tSl (rSlL K) ta tl th) σ H (.list (cutL ds lo hi)) := fun H1 Q s q =>
  h1 H1 _ s fun v H2 s2 hv => hlo H2 _ (s.trans s2) fun H3 s3 => hhi H3 _ (s.trans (s2.trans s3)) fun H4 s4 => by
    have hv := hv.sm (s3.trans s4)
    cases hv with
    | lst k1 k2 =>
      refine g_slL (sq_of (del_un k1).1) fun b H5 nb s5 eb => ?_
      exact q _ _ (s2.trans (s3.trans (s4.trans s5))) (.lst (del_get (Std.new (Std.sm (Std.sm (Std.sm (Std.sm hp s) s2) s3) s4) nb) eb) ((dxa_cut k2).sm s5))
theorem rd_tupOf (hp : Std p H) (h1 : RdA p ts σ H [.list ds]) : Rd p (tCB (rTupleOf K) ts) σ H (.tuple ds) := fun H1 Q s q =>
  h1 H1 _ s fun vs H2 s2 hv => by
    cases hv with
    | cons hv h0 =>
      cases h0
      cases hv with
      | lst k1 k2 =>
        refine g_tupleOfL (del_un k1).1 fun b H5 nb s5 eb => ?_
        exact q _ _ (s2.trans s5) (.tup (del_get (Std.new (Std.sm (Std.sm hp s) s2) nb) eb) (k2.sm s5))
theorem rd_lstOf (hp : Std p H) (h1 : RdA p ts σ H [.list ds]) : Rd p (tCB (rListOf K) ts) σ H (.list ds) := fun H1 Q s q =>
  h1 H1 _ s fun vs H2 s2 hv => by
    cases hv with
    | cons hv h0 =>
      cases h0
      cases hv with
      | lst k1 k2 =>
        refine g_listOfL (del_un k1).1 fun b H5 nb s5 eb => ?_
        exact q _ _ (s2.trans s5) (.lst (del_get (Std.new (Std.sm (Std.sm hp s) s2) nb) eb) (k2.sm s5))
theorem rd_I0 {g : Int → Int → Int} (h1 : Rd p ta σ H (.int i)) (h2 : Rd p tb σ H (.int j)) : Rd p (tOp (rI0 fun i j => .int (g i j)) ta tb) σ H (.int (g i j)) := fun H1 Q s q =>
  h1 H1 _ s fun v H2 s2 hv => h2 H2 _ (s.trans s2) fun w H3 s3 hw => by
    cases hv
    cases hw
    exact g_I0 (q _ _ (s2.trans s3) (.int _))
theorem rd_I {C : Int → Int → Prop} {g : Int → Int → Int} (h1 : Rd p ta σ H (.int i)) (h2 : Rd p tb σ H (.int j)) (c : C i j) : Rd p (tOp (rI C fun i j => .int (g i j)) ta tb) σ H (.int (g i j)) := fun H1 Q s q =>
  h1 H1 _ s fun v H2 s2 hv => h2 H2 _ (s.trans s2) fun w H3 s3 hw => by
    cases hv
    cases hw
    exact g_I c (q _ _ (s2.trans s3) (.int _))
theorem rd_U {g : Int → Int} (h1 : Rd p ta σ H (.int i)) : Rd p (tUn (rU fun i => .int (g i)) ta) σ H (.int (g i)) := fun H1 Q s q =>
  h1 H1 _ s fun v H2 s2 hv => by
    cases hv
    exact g_U (q _ _ s2 (.int _))
theorem rd_eqI (h1 : Rd p ta σ H (.int i)) (h2 : Rd p tb σ H (.int j)) : Rd p (tOp rEq ta tb) σ H (.bool (decide (i = j))) := fun H1 Q s q =>
  h1 H1 _ s fun v H2 s2 hv => h2 H2 _ (s.trans s2) fun w H3 s3 hw => by
    cases hv
    cases hw
    refine g_eq rfl ?_
    rw [show decide (V.int i = V.int j) = decide (i = j) by rw [decide_eq_decide]; exact ⟨fun h => V.int.inj h, fun h => by rw [h]⟩]
    exact q _ _ (s2.trans s3) (.bl _)
theorem rd_ixT {l : List Nat} {c : Nat} (h1 : Rd p ta σ H (.str (S l))) (h2 : Rd p tb σ H (.int i)) (hl : l.length ≤ 100000) (hc : atI l i = some c) : Rd p (tOp rIxT1 ta tb) σ H (.str (S [c])) := fun H1 Q s q =>
  h1 H1 _ s fun v H2 s2 hv => h2 H2 _ (s.trans s2) fun w H3 s3 hw => by
    cases hv
    cases hw
    exact g_ixT hl hc (q _ _ (s2.trans s3) (.str _))
theorem rd_ixL (h1 : Rd p ta σ H (.list ds)) (h2 : Rd p tb σ H (.int i)) (hc : atI ds i = some d) : Rd p (tOp (rIxL K) ta tb) σ H d := fun H1 Q s q =>
  h1 H1 _ s fun v H2 s2 hv => h2 H2 _ (s.trans s2) fun w H3 s3 hw => by
    have hv := hv.sm s3
    cases hw
    cases hv with
    | @lst _ xs _ k1 k2 =>
      have hl := k2.length
      unfold atI at hc
      cases hk : ixN ds.length i with
      | none => rw [hk] at hc; cases hc
      | some k =>
        rw [hk] at hc
        have hc' : ds[k]? = some d := hc
        have hkl := (List.getElem?_eq_some_iff.mp hc').1
        obtain ⟨x, hx⟩ : ∃ x, xs[k]? = some x := ⟨_, List.getElem?_eq_getElem (by omega)⟩
        refine g_ixL (sq_of (del_un k1).1) (v := x) ?_ (q _ _ (s2.trans s3) (k2.get hx hc'))
        unfold atI
        rw [hl, hk]
        exact hx
end
section
variable {p : List Addr} {a : Addr} {t ta tb : TE} {ts : TA} {tl th : TO} {σ : L2.St} {H : Hp} {d e : PyData} {ds es : List PyData} {n : Nat} {v : V} {K : PySem.W.Frag} {i j : Int} {lo hi : Option Int}
/-- the first ones to a place, from the end where it is below 0 -/
def cutTo (ds : List PyData) (i : Int) : List PyData := ds.take (if 0 ≤ i then i.toNat else ds.length - (-i).toNat)
theorem cutTo_eq {ds : List PyData} {i : Int} : cutL ds none (some i) = cutTo ds i := by
  unfold cutTo
  by_cases h : 0 ≤ i
  · rw [if_pos h]
    obtain ⟨k, rfl⟩ := Int.eq_ofNat_of_zero_le h
    exact cutL_to
  · rw [if_neg h]
    unfold cutL
    have e2 : HT.sIx ds.length 0 none = 0 := by unfold HT.sIx; simp
    have e1 : HT.sIx ds.length ds.length (some i) = ds.length - (-i).toNat := by
      have hi : i < 0 := by omega
      unfold HT.sIx
      simp [hi]
      omega
    rw [e1, e2, List.drop_zero, Nat.sub_zero]
theorem rd_to (hp : Std p H) (h1 : Rd p ta σ H (.list ds)) (hhi : Rd p tb σ H (.int i)) : Rd p (tSl (rSlL K) ta tNoPart (tPart tb)) σ H (.list (cutTo ds i)) := by
  rw [← cutTo_eq]
  exact rd_cut hp h1 rdo_none (rdo_some hhi)
theorem rd_from (hp : Std p H) (h1 : Rd p ta σ H (.list ds)) (hlo : Rd p tb σ H (.int i)) (h0 : 0 ≤ i) : Rd p (tSl (rSlL K) ta (tPart tb) tNoPart) σ H (.list (ds.drop i.toNat)) := by
  obtain ⟨k, rfl⟩ := Int.eq_ofNat_of_zero_le h0
  rw [show ds.drop ((k : Int)).toNat = cutL ds (some (k : Int)) none from cutL_from.symm]
  exact rd_cut hp h1 (rdo_some hlo) rdo_none
theorem rd_rep2 (hp : Std p H) (h1 : Rd p ta σ H (.list ds)) (hl : ds.length ≤ 1000) : Rd p (tOp rRep ta (tC (.int 2))) σ H (.list (ds ++ ds)) := by
  have := rd_rep (m := 2) hp h1 (rd_int (i := ((2 : Nat) : Int))) ⟨by omega, by decide⟩
  simpa [List.replicate_succ] using this
theorem rd_lenL (h1 : RdA p ts σ H [.list ds]) : Rd p (tCB (rLenL K) ts) σ H (.int ds.length) := fun H1 Q s q =>
  h1 H1 _ s fun vs H2 s2 hv => by
    cases hv with
    | cons hv h0 =>
      cases h0
      cases hv with
      | lst k1 k2 =>
        refine g_lenL (sq_of (del_un k1).1) ?_
        rw [k2.length]
        exact q _ _ s2 (.int _)
theorem rd_lenT {l : List Nat} (h1 : RdA p ts σ H [.str (S l)]) (hl : l.length ≤ 100000) : Rd p (tCB rLenT ts) σ H (.int l.length) := fun H1 Q s q =>
  h1 H1 _ s fun vs H2 s2 hv => by
    cases hv with
    | cons hv h0 =>
      cases h0
      cases hv
      exact g_lenT hl (q _ _ s2 (.int _))
end
section
variable {r : R2} {ta tb : TE} {te : TE} {ts : TA} {σ : L2.St} {H : Hp} {Q : VK} {rr : List V → Hp → VK → Prop}
end
/-! a list that is found, step by step -/
def Fnd (p : List Addr) (f : Addr) (H : Hp) (ds : List PyData) : Prop := ∃ xs, H f = some (.lst xs) ∧ f ∉ p ∧ DxAll (del (f :: p) H) xs ds
section
variable {p : List Addr} {f q : Addr} {t ta tb te : TE} {ts : TA} {σ : L2.St} {H H' : Hp} {d e : PyData} {ds es : List PyData} {n : Nat} {v : V} {K : PySem.W.Frag} {Q : VK}
theorem Fnd.sm (F : Fnd p f H ds) (s : Same H H') : Fnd p f H' ds := by
  obtain ⟨xs, h1, h2, h3⟩ := F
  exact ⟨xs, s _ _ h1, h2, h3.sm s⟩
theorem Fnd.bt (F : Fnd p f H ds) (s : But q H H') (hq : q ∈ p) : Fnd p f H' ds := by
  obtain ⟨xs, h1, h2, h3⟩ := F
  exact ⟨xs, s _ _ (fun e => h2 (e ▸ hq)) h1, h2, h3.bt s (List.mem_cons_of_mem _ hq)⟩
theorem Fnd.dx (F : Fnd p f H ds) : Dx (del p H) (.ref f) (.list ds) := by
  obtain ⟨xs, h1, h2, h3⟩ := F
  exact .lst (del_get h2 h1) h3.tl
end
section
variable {K : PySem.W.Frag} {c : TT} {A B : TS} {D : Ends} {σ : L2.St} {H : Hp} {b : Bool}
end
theorem atI_hd {α : Type} (x : α) (xs : List α) : atI (x :: xs) 0 = some x := by
  unfold atI ixN
  rw [if_pos (by decide), if_pos (by simp only [List.length_cons]; omega)]
  rfl
section
variable {p : List Addr} {f : Addr} {ts : TA} {σ : L2.St} {H H' : Hp} {d : PyData} {ds : List PyData} {n : Nat} {v : V} {K : PySem.W.Frag} {Q : VK} {R : Hp → Prop}
theorem Fnd.set (F : Fnd p f H ds) (hd : Dx (del (f :: p) H) v d) (hn : n < ds.length) (q : ∀ H', But f H H' → Fnd p f H' (ds.set n d) → R H') : rSetL (.ref f) (.int (n : Int)) v H R := by
  obtain ⟨xs, h1, h2, h3⟩ := F
  refine g_setLn n h1 rfl (by rw [h3.length]; exact hn) fun H3 b3 e3 => ?_
  exact q H3 b3 ⟨_, e3, h2, dxa_set (hd.bt b3 (List.mem_cons_self ..)) (h3.bt b3 (List.mem_cons_self ..))⟩
end
/-! sizes -/
section
variable {k : Nat} {ds es : List PyData} {d : PyData} {i : Int}
theorem nca_nil : ncA k [] = true := by rw [ncA]
theorem nca_cons (h : nc k d = true) (hs : ncA k ds = true) : ncA k (d :: ds) = true := by rw [ncA, h, hs]; rfl
theorem nca_app (h : ncA k ds = true) (hs : ncA k es = true) : ncA k (ds ++ es) = true := by rw [ncA_app, h, hs]; rfl
theorem nca_sub (h : ncA k ds = true) (hs : ∀ d ∈ es, d ∈ ds) : ncA k es = true := ncA_mem.mpr fun d hd => ncA_mem.mp h d (hs d hd)
theorem nca_take {n : Nat} (h : ncA k ds = true) : ncA k (ds.take n) = true := nca_sub h fun d hd => List.mem_of_mem_take hd
theorem nca_drop {n : Nat} (h : ncA k ds = true) : ncA k (ds.drop n) = true := nca_sub h fun d hd => List.mem_of_mem_drop hd
theorem nca_cutTo (h : ncA k ds = true) : ncA k (cutTo ds i) = true := nca_take h
theorem nca_rev (h : ncA k ds = true) : ncA k ds.reverse = true := nca_sub h fun d hd => List.mem_reverse.mp hd
theorem nc_non : nc k .none = true := by cases k <;> rfl
theorem nc_bl {b : Bool} : nc k (.bool b) = true := by cases k <;> rfl
theorem nc_int (h : i.natAbs ≤ 1000000) : nc k (.int i) = true := by
  have : decide (i.natAbs < 10 ^ 100) = true := decide_eq_true (Nat.lt_of_le_of_lt h (by decide))
  cases k <;> exact this
theorem nc_big (h : i.natAbs < 10 ^ 100) : nc k (.int i) = true := by
  have : decide (i.natAbs < 10 ^ 100) = true := decide_eq_true h
  cases k <;> exact this
theorem nc_strS {l : List Nat} (h1 : l.length ≤ 20) (h2 : ∀ c ∈ l, c < 1114112) : nc k (.str (S l)) = true := by
  have : (decide ((S l).length ≤ 20) && (S l).cps.toList.all fun c => decide (c < 1114112)) = true := by
    rw [S_len, decide_eq_true h1, Bool.true_and]
    exact List.all_eq_true.mpr fun c hc => decide_eq_true (h2 c hc)
  cases k <;> exact this
theorem nc_dic : nc k (.dict []) = true := by cases k <;> rfl
theorem nc_tup (hl : ds.length ≤ nbK (k + 1)) (h : ncA k ds = true) : nc (k + 1) (.tuple ds) = true := by
  simp only [nc]
  rw [decide_eq_true hl, h]
  rfl
theorem nc_lst (hl : ds.length ≤ nbK (k + 1)) (h : ncA k ds = true) : nc (k + 1) (.list ds) = true := by
  simp only [nc]
  rw [decide_eq_true hl, h]
  rfl
theorem nc_tup0 : nc k (.tuple []) = true := by cases k <;> rfl
theorem nc_lst0 : nc k (.list []) = true := by cases k <;> rfl
end
/-! a list of things, some of them known -/
end Ly

set_option maxHeartbeats 4000000
namespace Ly
open PySem PySem.Spec PyProof.Rows L2 SX
/-! ### calls of defs that show things -/
section
variable {X : Cx} {k j : Nat} {x : Str} {sp : Sp} {p pos : Pos} {e : Expr} {es : List Expr} {t : TA} {f : Addr} {fd : FuncData} {ps : List Str}
end
end Ly

set_option maxHeartbeats 4000000
namespace Ly
open PySem PySem.Spec PyProof.Rows L2 SX
/-! ### == of any list with the empty one; of a thing with itself or a copy -/
def rEqE (K : PySem.W.Frag) : R2 := fun x y H Q => ∃ a b xs, x = .ref a ∧ y = .ref b ∧ SqL K H a xs ∧ SqL K H b [] ∧ Q (.bl (decide (xs = []))) H
section
variable {X : Cx} {f : Value → Value → Sem Value} {r1 r2 : R2}
theorem op_eqE (hu : X.A.units + 64 < cLine) : OpR X (compareOp .Eq) (rEqE X.K) := by
  intro pins s σ H x y v u Q I rx ry h
  obtain ⟨a, b, xs, rfl, rfl, ha, hb, q⟩ := h
  cases (show v = Value.ref a from rx)
  cases (show u = Value.ref b from ry)
  obtain ⟨us, v1, p1, _⟩ := I.list ha
  obtain ⟨ws, v2, p2, _⟩ := I.list hb
  cases v2
  cases xs with
  | nil =>
    cases v1
    exact SeqAt.RcAt.lists (e := fun _ => true) p1.isList p2.isList rfl (by omega) (fun j h1 => absurd h1 (Nat.not_lt_zero j)) _ _ _ _ ⟨.bl true, H, I, rfl, q⟩
  | cons x xs =>
    cases v1 with
    | cons e1 e2 => exact SeqAt.RcAt.lists_lengths p1.isList p2.isList (by simp) (by omega) _ _ _ _ ⟨.bl false, H, I, rfl, q⟩
end
section
variable {K : PySem.W.Frag} {H : Hp} {Q : VK} {a b : Addr} {xs : List V} {v : V} {d : PyData}
theorem g_eqE (h1 : SqL K H a xs) (h2 : H b = some (.lst [])) (q : Q (.bl (decide (xs = []))) H) : rEqE K (.ref a) (.ref b) H Q := ⟨a, b, xs, rfl, rfl, h1, sq_of h2, q⟩
end
/-! sorted(list of ints), any length -/
end Ly

set_option maxHeartbeats 4000000
namespace Ly
open PySem PySem.Spec PyProof.Rows L2 SX
/-! ### brackets that stand alone, and mendings of them -/
inductive Lon : List Nat → List Nat → Prop
  | base {w : List Nat} : clean w → Lon w []
  | snoc {x ps : List Nat} {c : Nat} {w : List Nat} : Lon x ps → c ∈ BRK → clean w → Lon (x ++ c :: w) (ps ++ [x.length])
theorem Lon.app {x ps v : List Nat} (h : Lon x ps) (hv : clean v) : Lon (x ++ v) ps := by
  cases h with
  | base hw => exact .base (clean_app hw hv)
  | snoc h hc hw =>
    rw [List.append_assoc, List.cons_append]
    exact .snoc h hc (clean_app hw hv)
theorem Lon.letter {x ps : List Nat} {c : Nat} (h : Lon x ps) (hc : c ∉ BRK) : Lon (x ++ [c]) ps := h.app (clean_one hc)
theorem Lon.lt {x ps : List Nat} (h : Lon x ps) : ∀ p ∈ ps, p < x.length ∧ ∃ c ∈ BRK, x[p]? = some c := by
  induction h with
  | base _ => intro p hp; cases hp
  | @snoc y ps' c' w h1 h2 h3 ih =>
    intro p hp
    rcases List.mem_append.mp hp with hp | hp
    · obtain ⟨k1, c, k2, k3⟩ := ih p hp
      refine ⟨by rw [List.length_append]; omega, c, k2, ?_⟩
      rw [List.getElem?_append_left k1]
      exact k3
    · rw [List.mem_singleton.mp hp]
      refine ⟨by rw [List.length_append, List.length_cons]; omega, c', h2, ?_⟩
      rw [List.getElem?_append_right (Nat.le_refl _), Nat.sub_self]
      rfl
/-! all alone ones struck -/
/-! each with a partner beside it -/
/-! all brackets struck -/
/-! the alone ones turned into pairs -/
end Ly

set_option maxHeartbeats 4000000
namespace Ly
open PySem PySem.Spec PyProof.Rows L2 SX
/-! ### the statements within a statement -/
/-! ### a dict of texts by texts at the top of the module -/
/-- an entry, where key and value are texts: both and the hash -/
def entT (e : DictEntry) : Option (Str × Str × Int) := match e.key, e.val with
  | .str x _, .str y _ => some (x, y, e.hash)
  | _, _ => none
def dicT (K : PySem.W.Frag) (a : Addr) : Option (List (Option (Str × Str × Int))) := match K.lookup a with
  | some ⟨.type c, none, .dict es _, sl⟩ => bif decide (c = "dict") && (sl.isEmpty && !(a == sysModules)) then some (es.toList.map entT) else none
  | _ => none
def entsOf (P : Params) (kvs : List (Str × Str)) : List (Option (Str × Str × Int)) := kvs.map fun kv => some (kv.1, kv.2, PyData.keyHash P kv.1)
/-- at a stands a written dict: these texts by these texts -/
def MkD (w : World) (K : PySem.W.Frag) (a : Addr) (kvs : List (Str × Str)) : Prop := dicT K a = some (entsOf w.params kvs)
theorem entT_inv {e : DictEntry} {x y : Str} {h : Int} (q : entT e = some (x, y, h)) : (∃ t, e.key = .str x t) ∧ (∃ t, e.val = .str y t) ∧ e.hash = h := by
  unfold entT at q
  split at q
  · rename_i x' t y' t' e1 e2
    have q' := Option.some.inj q
    obtain ⟨q1, q2⟩ := Prod.mk.inj q'
    obtain ⟨q3, q4⟩ := Prod.mk.inj q2
    subst q1 q3 q4
    exact ⟨⟨_, e1⟩, ⟨_, e2⟩, rfl⟩
  · cases q
theorem MkD.es {w : World} {K : PySem.W.Frag} {a : Addr} {kvs : List (Str × Str)} (D : MkD w K a kvs) : ∃ es n, K.lookup a = some ⟨.type "dict", none, .dict es n, #[]⟩ ∧ es.toList.map entT = entsOf w.params kvs ∧ (a == sysModules) = false := by
  unfold MkD dicT at D
  split at D
  · rename_i c es n sl q
    cases z : (decide (c = "dict") && (sl.isEmpty && !(a == sysModules))) with
    | false => rw [z] at D; cases D
    | true =>
      rw [z] at D
      rw [Bool.and_eq_true, Bool.and_eq_true] at z
      obtain ⟨z1, z2, z3⟩ := z
      have e1 : c = "dict" := of_decide_eq_true z1
      have e2 : sl = #[] := Array.isEmpty_iff.mp z2
      subst e1 e2
      exact ⟨es, n, q, Option.some.inj D, by simpa using z3⟩
  · cases D
/-- what stands by a key -/
def byK (kvs : List (Str × Str)) (x : Str) : Option Str := (kvs.find? fun kv => kv.1 == x).map Prod.snd
theorem find_ents {P : Params} {x : Str} : ∀ {l : List DictEntry} {kvs : List (Str × Str)}, l.map entT = entsOf P kvs → l.any (·.refKey) = false ∧
    match byK kvs x with
    | some y => ∃ e t, l.find? (·.key.isStr x) = some e ∧ e.val = .str y t
    | none => l.find? (·.key.isStr x) = none
  | [], kvs, h => by
    cases kvs with
    | nil => exact ⟨rfl, rfl⟩
    | cons kv kvs => cases h
  | e :: r, [], h => by cases h
  | e :: r, kv :: kvs, h => by
    have h1 : entT e :: r.map entT = some (kv.1, kv.2, PyData.keyHash P kv.1) :: entsOf P kvs := h
    injection h1 with h2 h3
    obtain ⟨⟨t, k1⟩, ⟨t', k2⟩, _⟩ := entT_inv h2
    obtain ⟨i1, i2⟩ := find_ents (x := x) h3
    refine ⟨by rw [List.any_cons, i1, Bool.or_false]; unfold DictEntry.refKey; rw [k1], ?_⟩
    have ek : e.key.isStr x = (kv.1 == x) := by rw [k1]; rfl
    unfold byK at i2 ⊢
    rw [List.find?_cons, List.find?_cons]
    simp only [ek]
    cases hb : (kv.1 == x) with
    | true => exact ⟨e, t', rfl, k2⟩
    | false => exact i2
theorem MkD.nsIn {w : World} {K : PySem.W.Frag} {a : Addr} {kvs : List (Str × Str)} (D : MkD w K a kvs) (x : Str) : ∃ r, PySem.W.nsIn K a x = some r ∧ match byK kvs x with
    | some y => ∃ t, r = some (.str y t)
    | none => r = none := by
  obtain ⟨es, n, h1, h2, h3⟩ := D.es
  obtain ⟨f1, f2⟩ := find_ents (x := x) h2
  unfold PySem.W.nsIn
  rw [h1]
  cases hb : byK kvs x with
  | none =>
    rw [hb] at f2
    dsimp only at f2 ⊢
    rw [f2]
    refine ⟨none, ?_, rfl⟩
    simp only [f1, Bool.false_eq_true, if_false]
  | some y =>
    rw [hb] at f2
    obtain ⟨e, t, k1, k2⟩ := f2
    dsimp only
    rw [k1]
    exact ⟨some e.val, rfl, t, by rw [k2]⟩
theorem MkD.some {w : World} {K : PySem.W.Frag} {a : Addr} {kvs : List (Str × Str)} (D : MkD w K a kvs) (x : Str) : ∃ r, PySem.W.nsIn K a x = some r ∧ r.isSome = (byK kvs x).isSome := by
  obtain ⟨r, h1, h2⟩ := D.nsIn x
  refine ⟨r, h1, ?_⟩
  cases hb : byK kvs x with
  | none => rw [hb] at h2; rw [show r = none from h2]; rfl
  | some y => rw [hb] at h2; obtain ⟨t, rfl⟩ := h2; rfl
/-! the keys, one by one -/
def Itmk (kvs : List (Str × Str)) : It := ⟨fun i _ => i < kvs.length, fun i H x H' => H' = H ∧ ∃ kv, kvs[i]? = some kv ∧ x = .str kv.1, fun i _ => kvs.length ≤ i⟩
def iKd (d : Addr) (kvs : List (Str × Str)) (td : TE) : TI := fun σ H R => td σ H fun x H1 => x = .ref d ∧ R (Itmk kvs) H1
/-! the head's facts with such dicts -/
structure KdD where
  at_ : PySem.W.Frag → Addr
  kvs : List (Str × Str)
def obsM (ds : List KdD) (K : PySem.W.Frag) : List (Option (List (Option (Str × Str × Int)))) := ds.map fun d => dicT K (d.at_ K)
def valM (ds : List KdD) (w : World) : List (Option (List (Option (Str × Str × Int)))) := ds.map fun d => some (entsOf w.params d.kvs)
def SaysM (ds : List KdD) (w : World) (K : PySem.W.Frag) : Prop := obsM ds K = valM ds w
theorem SaysM.at_ {ds : List KdD} {w : World} {K : PySem.W.Frag} (c : SaysM ds w K) (i : Nat) {d : KdD} (h : ds[i]? = some d := by rfl) : MkD w K (d.at_ K) d.kvs := by
  have e : (obsM ds K)[i]? = (valM ds w)[i]? := congrArg (fun l => l[i]?) c
  unfold obsM valM at e
  rw [List.getElem?_map, List.getElem?_map, h] at e
  exact Option.some.inj e
end Ly

set_option maxHeartbeats 4000000
namespace Ly
open PySem PySem.Spec PyProof.Rows L2 SX
/-! ### figures -/
/-! ### s.rstrip(signs) -/
/-! ### a comprehension over a dict's keys -/
/-! ### deeds written -/
def Dw.mk : Dw → Nat
  | .put _ => 43
  | .str => 45
  | .trn _ => 61
theorem Dds.app {H H' : Hp} {a b c : Addr} {r1 r2 : List Addr} {d1 d2 : List Deed} (h1 : Dds H a r1 d1) (h2 : Dds H b r2 d2) (s : Same H H') (e : H' c = some (.lst (r1.map V.ref ++ r2.map V.ref))) : Dds H' c (r1 ++ r2) (d1 ++ d2) := by
  refine ⟨by rw [e, List.map_append], by rw [List.length_append, List.length_append, h1.len, h2.len], fun k r d hr hd => ?_⟩
  have hl := h1.len
  by_cases hk : k < r1.length
  · rw [List.getElem?_append_left hk] at hr
    rw [List.getElem?_append_left (by omega)] at hd
    exact s _ _ (h1.it k r d hr hd)
  · rw [List.getElem?_append_right (by omega)] at hr
    rw [List.getElem?_append_right (by omega), ← hl] at hd
    exact s _ _ (h2.it _ r d hr hd)
theorem Dds.one {H H' : Hp} {t a : Addr} {d : Deed} (h : H t = some (.tup (ddV d))) (s : Same H H') (e : H' a = some (.lst [.ref t])) : Dds H' a [t] [d] := by
  refine ⟨e, rfl, fun k r x hr hx => ?_⟩
  cases k with
  | zero => rw [← Option.some.inj hr, ← Option.some.inj hx]; exact s _ _ h
  | succ k => cases hr
end Ly

set_option maxHeartbeats 4000000
namespace Ly
open PySem PySem.Spec PyProof.Rows L2 SX
/-! ### repr of things whose size is told -/
section
variable {X : Cx}
end
theorem Dx.two {H : Hp} {p : Addr} {v w : V} {a b : PyData} (h : H p = some (.lst [v, w])) (ha : Dx H v a) (hb : Dx H w b) : Dx H (.ref p) (.list [a, b]) := .lst h (.cons ha (.cons hb .nil))
end Ly

set_option maxHeartbeats 4000000
namespace Ly
open PySem PySem.Spec PyProof.Rows L2 SX
/-! ### outlines of any text read -/
abbrev NSt := List (List Nd × Nat) × List Nd
/-- k brackets closed -/
def clsS : Nat → NSt → NSt
  | 0, s => s
  | k + 1, s => clsS k (nstep s 41)
theorem clo41 : (41 : Nat) ∈ CLO := by decide
theorem nstep_clo {ds : List Nd} {o : Nat} {fs : List (List Nd × Nat)} {cur : List Nd} : nstep ((ds, o) :: fs, cur) 41 = (fs, ds ++ [.br o cur]) := by
  unfold nstep
  rw [if_pos clo41]
theorem cls_len : ∀ (k : Nat) (s : NSt), k ≤ s.1.length → (clsS k s).1.length = s.1.length - k
  | 0, s, _ => rfl
  | k + 1, ([], cur), h => by simp at h
  | k + 1, ((ds, o) :: fs, cur), h => by
    rw [clsS, nstep_clo, cls_len k _ (by simpa using h)]
    simp
theorem cls_lnS : ∀ (k : Nat) (s : NSt), k ≤ s.1.length → lnS (clsS k s) = lnS s
  | 0, s, _ => rfl
  | k + 1, ([], cur), h => by simp at h
  | k + 1, ((ds, o) :: fs, cur), h => by
    rw [clsS, cls_lnS k _ (by rw [nstep_clo]; simpa using h), lnS_clo clo41 rfl]
theorem Bld.clsS {N : Addr → Prop} {H : Hp} : ∀ (k : Nat) (s : NSt) (b : Addr) (bs : List Addr), Bld N H b bs s.1 s.2 → k ≤ s.1.length → ∃ b' bs', (b :: bs).drop k = b' :: bs' ∧ Bld N H b' bs' (clsS k s).1 (clsS k s).2
  | 0, s, b, bs, B, _ => ⟨b, bs, rfl, B⟩
  | k + 1, ([], cur), b, bs, B, h => by simp at h
  | k + 1, ((ds, o) :: fs, cur), b, bs, B, h => by
    obtain ⟨b0, bs0, rfl, B0⟩ := B.close
    rw [Ly.clsS, nstep_clo]
    exact Bld.clsS k (fs, ds ++ [.br o cur]) b0 bs0 B0 (by simpa using h)
/-- the frames and the items are of letters and opening brackets -/
def okSt (s : NSt) : Prop := (∀ f ∈ s.1, ndOk f.1 ∧ f.2 ∈ OPN) ∧ ndOk s.2
theorem ndOk_1 {d : Nd} (h : ndOk1 d) : ndOk [d] := ⟨h, trivial⟩
theorem okSt_cls : ∀ (k : Nat) (s : NSt), okSt s → k ≤ s.1.length → okSt (clsS k s)
  | 0, s, h, _ => h
  | k + 1, ([], cur), _, h => by simp at h
  | k + 1, ((ds, o) :: fs, cur), hs, h => by
    rw [clsS, nstep_clo]
    have h1 := hs.1 (ds, o) (List.mem_cons_self ..)
    exact okSt_cls k _ ⟨fun f hf => hs.1 f (List.mem_cons_of_mem _ hf), ndOk_app _ _ h1.1 (ndOk_1 ⟨h1.2, hs.2⟩)⟩ (by simpa using h)
theorem okSt_step {s : NSt} {c : Nat} (h : okSt s) (hc : c ∈ LET ∨ c ∈ OPN) : okSt (nstep s c) := by
  unfold nstep
  rcases hc with hc | hc
  · have h1 := let_opn c hc
    have h2 : c ∉ CLO := (by decide : ∀ c ∈ LET, c ∉ CLO) c hc
    rw [if_neg h2, if_neg h1]
    exact ⟨h.1, ndOk_app _ _ h.2 (ndOk_1 hc)⟩
  · rw [if_neg (opn_clo c hc), if_pos hc]
    refine ⟨fun f hf => ?_, trivial⟩
    rcases List.mem_cons.mp hf with rfl | hf
    · exact ⟨h.2, hc⟩
    · exact h.1 f hf
/-- whether a line may stand where n brackets are open, with its sign -/
def lineO (n : Nat) (ln : List Nat) : Option Nat := match ln.getLast? with
  | none => none
  | some c => if ln.length ≤ n + 1 ∧ ln.length ≤ 60 ∧ ln.take (ln.length - 1) = blk (ln.length - 1) ∧ (c ∈ LET ∨ c ∈ OPN) then some c else none
def stepO (s : NSt) (ln : List Nat) : Option NSt := (lineO s.1.length ln).map fun c => nstep (clsS (s.1.length + 1 - ln.length) s) c
def readO : NSt → List (List Nat) → Option NSt
  | s, [] => some s
  | s, ln :: r => (stepO s ln).bind fun s' => readO s' r
/-- the nest that a text writes -/
def outO (l : List Nat) : Option (List Nd) := if l = [] then some [] else (readO ([], []) (TL.spl [10] 0 [] l)).map fun s => (clsS s.1.length s).2
theorem lineO_some {n c : Nat} {ln : List Nat} (h : lineO n ln = some c) : ln = blk (ln.length - 1) ++ [c] ∧ 1 ≤ ln.length ∧ ln.length ≤ n + 1 ∧ ln.length ≤ 60 ∧ (c ∈ LET ∨ c ∈ OPN) := by
  unfold lineO at h
  cases hl : ln.getLast? with
  | none => rw [hl] at h; cases h
  | some d =>
    rw [hl] at h
    dsimp only at h
    split at h
    · rename_i hh
      have hd : d = c := Option.some.inj h
      subst hd
      have hne : ln ≠ [] := fun e => by rw [e] at hl; cases hl
      have hlen : 1 ≤ ln.length := List.length_pos_iff.mpr hne
      refine ⟨?_, hlen, hh.1, hh.2.1, hh.2.2.2⟩
      have h1 := List.take_append_drop (ln.length - 1) ln
      rw [hh.2.2.1] at h1
      have h2 : ln.drop (ln.length - 1) = [d] := by
        rw [List.getLast?_eq_getElem?] at hl
        have := List.drop_eq_getElem_cons (show ln.length - 1 < ln.length by omega)
        rw [this, show ln.length - 1 + 1 = ln.length by omega, List.drop_length]
        rw [List.getElem?_eq_getElem (by omega)] at hl
        rw [Option.some.inj hl]
      rw [h2] at h1
      exact h1.symm
    · cases h
theorem lineO_no {n : Nat} {ln : List Nat} (h : ¬ (1 ≤ ln.length ∧ ln.length ≤ n + 1 ∧ ln.length ≤ 60 ∧ ln.take (ln.length - 1) = blk (ln.length - 1))) : lineO n ln = none := by
  cases hc : lineO n ln with
  | none => rfl
  | some c =>
    obtain ⟨h1, h2, h3, h4, h5⟩ := lineO_some hc
    refine absurd ⟨h2, h3, h4, ?_⟩ h
    have h6 : ∀ m, m = ln.length - 1 → ln.take m = blk (ln.length - 1) := fun m hm => by
      rw [h1, List.take_left' (by rw [blk_len, hm])]
      rw [List.length_append, blk_len]
      rfl
    exact h6 _ rfl
theorem lineO_sg {n c : Nat} {ln : List Nat} (hl : ln.getLast? = some c) (h : ¬ (c ∈ LET ∨ c ∈ OPN)) : lineO n ln = none := by
  unfold lineO
  rw [hl]
  dsimp only
  rw [if_neg (fun q => h q.2.2.2)]
theorem lineO_ok {n c : Nat} {ln : List Nat} (hl : ln.getLast? = some c) (h : ln.length ≤ n + 1 ∧ ln.length ≤ 60 ∧ ln.take (ln.length - 1) = blk (ln.length - 1)) (hc : c ∈ LET ∨ c ∈ OPN) : lineO n ln = some c := by
  unfold lineO
  rw [hl]
  dsimp only
  rw [if_pos ⟨h.1, h.2.1, h.2.2, hc⟩]
theorem lineO_at {n c : Nat} {ln : List Nat} (hl : ln.getLast? = some c) : lineO n ln = if ln.length ≤ n + 1 ∧ ln.length ≤ 60 ∧ ln.take (ln.length - 1) = blk (ln.length - 1) ∧ (c ∈ LET ∨ c ∈ OPN) then some c else none := by
  unfold lineO
  rw [hl]
theorem last_cut {c : Nat} {ln : List Nat} (hl : ln.getLast? = some c) : ln.drop (ln.length - 1) = [c] ∧ ln = ln.take (ln.length - 1) ++ [c] := by
  have hne : ln ≠ [] := fun e => by rw [e] at hl; cases hl
  have hlen : 1 ≤ ln.length := List.length_pos_iff.mpr hne
  have h2 : ln.drop (ln.length - 1) = [c] := by
    rw [List.getLast?_eq_getElem?] at hl
    rw [List.drop_eq_getElem_cons (show ln.length - 1 < ln.length by omega), show ln.length - 1 + 1 = ln.length by omega, List.drop_length]
    rw [List.getElem?_eq_getElem (by omega)] at hl
    rw [Option.some.inj hl]
  exact ⟨h2, by rw [← h2, List.take_append_drop]⟩
theorem slice_none : Txt.slice (S []) (some (-1)) none = S [] := by rfl
theorem not_clo {c : Nat} (h : c ∈ LET ∨ c ∈ OPN) : c ∉ CLO := by
  rcases h with h | h
  · exact (by decide : ∀ c ∈ LET, c ∉ CLO) c h
  · exact opn_clo c h
theorem stepO_lnS {s s' : NSt} {ln : List Nat} (h : stepO s ln = some s') : lnS s' = lnS s ++ [ln] := by
  unfold stepO at h
  cases hc : lineO s.1.length ln with
  | none => rw [hc] at h; cases h
  | some c =>
    rw [hc] at h
    have h := Option.some.inj h
    obtain ⟨h1, h2, h3, h4, h5⟩ := lineO_some hc
    subst h
    have hk : s.1.length + 1 - ln.length ≤ s.1.length := by omega
    rw [lnS_not (not_clo h5), cls_lnS _ _ hk, cls_len _ _ hk, show s.1.length - (s.1.length + 1 - ln.length) = ln.length - 1 by omega, ← h1]
theorem stepO_ok {s s' : NSt} {ln : List Nat} (hs : okSt s) (h : stepO s ln = some s') : okSt s' := by
  unfold stepO at h
  cases hc : lineO s.1.length ln with
  | none => rw [hc] at h; cases h
  | some c =>
    rw [hc] at h
    have h := Option.some.inj h
    obtain ⟨h1, h2, h3, h4, h5⟩ := lineO_some hc
    subst h
    exact okSt_step (okSt_cls _ _ hs (by omega)) h5
theorem readO_all : ∀ (ls : List (List Nat)) (s s' : NSt), okSt s → readO s ls = some s' → lnS s' = lnS s ++ ls ∧ okSt s' ∧ ∀ x ∈ ls, x.length ≤ 60
  | [], s, s', hs, h => by
    have := Option.some.inj h
    subst this
    exact ⟨by rw [List.append_nil], hs, fun x hx => by cases hx⟩
  | ln :: r, s, s', hs, h => by
    rw [readO] at h
    cases h1 : stepO s ln with
    | none => rw [h1] at h; cases h
    | some s1 =>
      rw [h1] at h
      have h : readO s1 r = some s' := h
      obtain ⟨a, b, c⟩ := readO_all r s1 s' (stepO_ok hs h1) h
      refine ⟨by rw [a, stepO_lnS h1, List.append_assoc]; rfl, b, fun x hx => ?_⟩
      rcases List.mem_cons.mp hx with rfl | hx
      · unfold stepO at h1
        cases hc : lineO s.1.length x with
        | none => rw [hc] at h1; cases h1
        | some c => exact (lineO_some hc).2.2.2.1
      · exact c x hx
theorem readO_app : ∀ (a b : List (List Nat)) (s : NSt), readO s (a ++ b) = (readO s a).bind fun s' => readO s' b
  | [], b, s => rfl
  | ln :: r, b, s => by
    rw [List.cons_append, readO, readO]
    cases stepO s ln with
    | none => rfl
    | some s1 => exact readO_app r b s1
/-- where a line is none -/
theorem outO_bad {l : List Nat} {pre post : List (List Nat)} {ln : List Nat} {s : NSt} (h0 : l ≠ []) (h : TL.spl [10] 0 [] l = pre ++ ln :: post) (hp : readO ([], []) pre = some s) (hn : lineO s.1.length ln = none) : outO l = none := by
  unfold outO
  rw [if_neg h0, h, readO_app, hp]
  show Option.map _ (readO s (ln :: post)) = none
  rw [readO]
  unfold stepO
  rw [hn]
  rfl
theorem outO_end {l : List Nat} {s : NSt} (h0 : l ≠ []) (hp : readO ([], []) (TL.spl [10] 0 [] l) = some s) : outO l = some (clsS s.1.length s).2 := by
  unfold outO
  rw [if_neg h0, hp]
  rfl
theorem readO_snoc {pre : List (List Nat)} {ln : List Nat} {s : NSt} {c : Nat} (hp : readO ([], []) pre = some s) (hc : lineO s.1.length ln = some c) : readO ([], []) (pre ++ [ln]) = some (nstep (clsS (s.1.length + 1 - ln.length) s) c) := by
  rw [readO_app, hp]
  show readO s [ln] = _
  rw [readO]
  unfold stepO
  rw [hc]
  rfl
def szS (s : NSt) : Nat := (s.1.map fun f => f.1.length + 1).sum + s.2.length
theorem sz_cls : ∀ (k : Nat) (s : NSt), k ≤ s.1.length → szS (clsS k s) ≤ szS s
  | 0, s, _ => Nat.le_refl _
  | k + 1, ([], cur), h => by simp at h
  | k + 1, ((ds, o) :: fs, cur), h => by
    rw [clsS, nstep_clo]
    refine Nat.le_trans (sz_cls k _ (by simpa using h)) ?_
    unfold szS
    simp only [List.map_cons, List.sum_cons, List.length_append, List.length_cons, List.length_nil]
    omega
theorem sz_step {s : NSt} {c : Nat} (hc : c ∉ CLO) : szS (nstep s c) ≤ szS s + 1 := by
  unfold nstep
  rw [if_neg hc]
  split
  · unfold szS
    simp only [List.map_cons, List.sum_cons, List.length_nil]
    omega
  · unfold szS
    simp only [List.length_append, List.length_cons, List.length_nil]
    omega
theorem readO_sz : ∀ (ls : List (List Nat)) (s s' : NSt), readO s ls = some s' → szS s' ≤ szS s + ls.length
  | [], s, s', h => by
    have := Option.some.inj h
    subst this
    exact Nat.le_refl _
  | ln :: r, s, s', h => by
    rw [readO] at h
    unfold stepO at h
    cases hc : lineO s.1.length ln with
    | none => rw [hc] at h; cases h
    | some c =>
      rw [hc] at h
      obtain ⟨h1, h2, h3, h4, h5⟩ := lineO_some hc
      have h : readO (nstep (clsS (s.1.length + 1 - ln.length) s) c) r = some s' := h
      have := readO_sz r _ s' h
      have a := sz_step (s := clsS (s.1.length + 1 - ln.length) s) (not_clo h5)
      have b := sz_cls (s.1.length + 1 - ln.length) s (by omega)
      rw [List.length_cons]
      omega
theorem sz_fr (s : NSt) : s.1.length ≤ szS s ∧ s.2.length ≤ szS s := by
  unfold szS
  have : ∀ fs : List (List Nd × Nat), fs.length ≤ (fs.map fun f => f.1.length + 1).sum := by
    intro fs
    induction fs with
    | nil => exact Nat.le_refl _
    | cons f fs ih => simp only [List.map_cons, List.sum_cons, List.length_cons]; omega
  have := this s.1
  omega
/-! lines of a text -/
theorem spl_ne : ∀ (l acc : List Nat), TL.spl [10] 0 acc l ≠ []
  | [], acc => by rw [TL.spl_nil]; simp
  | c :: r, acc => by
    by_cases h : TL.pre [10] (c :: r) = true
    · rw [TL.spl_hit h]; simp
    · rw [TL.spl_miss (by simpa using h)]; exact spl_ne r _
theorem pre10 {c : Nat} {r : List Nat} : TL.pre [10] (c :: r) = decide (c = 10) := by
  unfold TL.pre
  show ([c] == [10]) = _
  by_cases h : c = 10
  · rw [h]; rfl
  · rw [decide_eq_false h]
    simpa using h
theorem spl_joinL : ∀ (l acc : List Nat), TL.joinL [10] (TL.spl [10] 0 acc l) = acc ++ l
  | [], acc => by rw [TL.spl_nil, List.append_nil]; rfl
  | c :: r, acc => by
    by_cases h : c = 10
    · rw [TL.spl_hit (by rw [pre10, decide_eq_true h])]
      have ih := spl_joinL r []
      have hn := spl_ne r []
      cases hq : TL.spl [10] ([10].length - 1) [] r with
      | nil => exact absurd hq hn
      | cons x y =>
        have ih : TL.joinL [10] (x :: y) = r := by rw [← hq]; exact ih
        show acc ++ ([10] ++ TL.joinL [10] (x :: y)) = _
        rw [ih, h]
        rfl
    · rw [TL.spl_miss (by rw [pre10, decide_eq_false h]), spl_joinL r, List.append_assoc]
      rfl
theorem spl_cnt : ∀ (l acc : List Nat), (TL.spl [10] 0 acc l).length = l.count 10 + 1
  | [], acc => by rw [TL.spl_nil]; rfl
  | c :: r, acc => by
    by_cases h : c = 10
    · rw [TL.spl_hit (by rw [pre10, decide_eq_true h]), List.length_cons, show [10].length - 1 = 0 from rfl, spl_cnt r [], h, List.count_cons_self]
    · rw [TL.spl_miss (by rw [pre10, decide_eq_false h]), spl_cnt r, List.count_cons_of_ne (fun e => h e)]
theorem spl_sub : ∀ (l acc : List Nat) (x : List Nat), x ∈ TL.spl [10] 0 acc l → (∀ c ∈ x, c ∈ acc ∨ c ∈ l) ∧ x.length ≤ acc.length + l.length
  | [], acc, x, h => by
    rw [TL.spl_nil, List.mem_singleton] at h
    subst h
    exact ⟨fun c hc => .inl hc, by simp⟩
  | c :: r, acc, x, h => by
    by_cases hc : c = 10
    · rw [TL.spl_hit (by rw [pre10, decide_eq_true hc])] at h
      rcases List.mem_cons.mp h with rfl | h
      · exact ⟨fun c hc => .inl hc, by simp⟩
      · obtain ⟨a, b⟩ := spl_sub r [] x h
        refine ⟨fun d hd => ?_, by simp at b ⊢; omega⟩
        rcases a d hd with h | h
        · cases h
        · exact .inr (List.mem_cons_of_mem _ h)
    · rw [TL.spl_miss (by rw [pre10, decide_eq_false hc])] at h
      obtain ⟨a, b⟩ := spl_sub r _ x h
      refine ⟨fun d hd => ?_, by simp at b ⊢; omega⟩
      rcases a d hd with h | h
      · rcases List.mem_append.mp h with h | h
        · exact .inl h
        · rw [List.mem_singleton.mp h]; exact .inr (List.mem_cons_self ..)
      · exact .inr (List.mem_cons_of_mem _ h)
theorem spl_no10 : ∀ (l acc : List Nat), 10 ∉ acc → ∀ x ∈ TL.spl [10] 0 acc l, 10 ∉ x
  | [], acc, ha, x, h => by
    rw [TL.spl_nil, List.mem_singleton] at h
    subst h
    exact ha
  | c :: r, acc, ha, x, h => by
    by_cases hc : c = 10
    · rw [TL.spl_hit (by rw [pre10, decide_eq_true hc])] at h
      rcases List.mem_cons.mp h with rfl | h
      · exact ha
      · exact spl_no10 r [] (by simp) x h
    · rw [TL.spl_miss (by rw [pre10, decide_eq_false hc])] at h
      exact spl_no10 r _ (by simp [ha]; exact fun e => hc e.symm) x h
/-! depth and size by the lines -/
mutual
theorem dp_lnI : ∀ (d : Nd) (k n : Nat), (∀ x ∈ lnI d k, x.length ≤ n) → Nd.deep d ≠ 0 → Nd.deep d + k ≤ n
  | .let_ c, k, n, _, h => absurd rfl h
  | .num _, k, n, _, h => absurd rfl h
  | .br o ds, k, n, hx, _ => by
    rw [lnI] at hx
    have h1 := hx _ (List.mem_cons_self ..)
    rw [List.length_append, blk_len] at h1
    have h1 : k + 1 ≤ n := h1
    have e : Nd.deep (.br o ds) = Nd.deeps ds + 1 := by rw [Nd.deep]
    rw [e]
    by_cases h0 : Nd.deeps ds = 0
    · rw [h0]; omega
    · have := dp_lnN ds (k + 1) n (fun x h => hx x (List.mem_cons_of_mem _ h)) h0
      omega
theorem dp_lnN : ∀ (ds : List Nd) (k n : Nat), (∀ x ∈ lnN ds k, x.length ≤ n) → Nd.deeps ds ≠ 0 → Nd.deeps ds + k ≤ n
  | [], k, n, _, h => absurd (by rw [Nd.deeps]) h
  | d :: ds, k, n, hx, h => by
    rw [lnN] at hx
    rw [Nd.deeps] at h ⊢
    by_cases h1 : Nd.deep d = 0
    · have := dp_lnN ds k n (fun x h => hx x (List.mem_append_right _ h)) (by omega)
      omega
    · have a := dp_lnI d k n (fun x h => hx x (List.mem_append_left _ h)) h1
      by_cases h2 : Nd.deeps ds = 0
      · omega
      · have b := dp_lnN ds k n (fun x h => hx x (List.mem_append_right _ h)) h2
        omega
end
mutual
theorem tx_lnI : ∀ (d : Nd) (k : Nat), (txI d).length ≤ 2 * (lnI d k).length
  | .let_ c, k => by rw [txI, lnI]; simp
  | .num _, k => by rw [txI]; simp
  | .br o ds, k => by
    have := tx_lnN ds (k + 1)
    rw [txI, lnI]
    simp only [List.length_cons, List.length_append, List.length_nil]
    omega
theorem tx_lnN : ∀ (ds : List Nd) (k : Nat), (txN ds).length ≤ 2 * (lnN ds k).length
  | [], k => by rw [txN]; simp
  | d :: ds, k => by
    have h1 := tx_lnI d k
    have h2 := tx_lnN ds k
    rw [txN, lnN, List.length_append, List.length_append]
    omega
end
theorem outO_some {l : List Nat} {ns : List Nd} (h : outO l = some ns) : TL.joinL [10] (lnN ns 0) = l ∧ ndOk ns ∧ Nd.deeps ns ≤ 60 ∧ (txN ns).length ≤ 2 * (l.count 10 + 1) := by
  unfold outO at h
  split at h
  · rename_i h0
    have := Option.some.inj h
    subst this
    subst h0
    exact ⟨by rw [lnN]; rfl, trivial, by rw [Nd.deeps]; omega, by rw [txN]; simp⟩
  · cases hr : readO ([], []) (TL.spl [10] 0 [] l) with
    | none => rw [hr] at h; cases h
    | some s =>
      rw [hr] at h
      have h : (clsS s.1.length s).2 = ns := Option.some.inj h
      obtain ⟨h1, h2, h3⟩ := readO_all _ _ _ (show okSt ([], []) from ⟨(fun f hf => by cases hf), trivial⟩) hr
      have h4 := cls_lnS s.1.length s (Nat.le_refl _)
      have h5 := cls_len s.1.length s (Nat.le_refl _)
      have h6 := okSt_cls s.1.length s h2 (Nat.le_refl _)
      rw [Nat.sub_self] at h5
      have h7 : (clsS s.1.length s).1 = [] := List.eq_nil_of_length_eq_zero h5
      have h8 : lnS (clsS s.1.length s) = lnN ns 0 := by
        show lnF (clsS s.1.length s).1 ++ lnN (clsS s.1.length s).2 (clsS s.1.length s).1.length = _
        rw [h7, h]
        rfl
      have h9 : lnN ns 0 = TL.spl [10] 0 [] l := by
        rw [← h8, h4, h1]
        show lnF [] ++ lnN [] 0 ++ _ = _
        rw [lnN]
        rfl
      have hd : Nd.deeps ns ≤ 60 := by
        by_cases h0 : Nd.deeps ns = 0
        · omega
        · have := dp_lnN ns 0 60 (by rw [h9]; exact h3) h0
          omega
      refine ⟨by rw [h9, spl_joinL]; rfl, by rw [← h]; exact h6.2, hd, ?_⟩
      have := tx_lnN ns 0
      rw [h9, spl_cnt] at this
      exact this
theorem tx_pos {d : Nd} (h : ndOk1 d) : 1 ≤ (txI d).length := by
  cases d with
  | let_ c => rw [txI]; simp
  | num _ => exact absurd h (by unfold ndOk1; exact id)
  | br o ds => rw [txI]; simp
theorem len_tx : ∀ ds : List Nd, ndOk ds → ds.length ≤ (txN ds).length
  | [], _ => Nat.zero_le _
  | d :: ds, h => by
    rw [ndOk] at h
    have h1 := tx_pos h.1
    have h2 := len_tx ds h.2
    rw [txN, List.length_append, List.length_cons]
    omega
mutual
theorem wd_txI : ∀ d : Nd, ndOk1 d → Nd.wide d ≤ (txI d).length
  | .let_ c, _ => by rw [Nd.wide]; exact Nat.zero_le _; all_goals intros; contradiction
  | .num _, h => by rw [Nd.wide]; exact Nat.zero_le _; all_goals intros; contradiction
  | .br o ds, h => by
    rw [ndOk1] at h
    have := wd_txN ds h.2
    rw [Nd.wide, txI, List.length_cons, List.length_append]
    omega
theorem wd_txN : ∀ ds : List Nd, ndOk ds → Nd.wides ds ≤ (txN ds).length
  | [], _ => by rw [Nd.wides]; exact Nat.zero_le _
  | d :: ds, h => by
    have hl := len_tx (d :: ds) h
    rw [ndOk] at h
    have h1 := wd_txI d h.1
    have h2 := wd_txN ds h.2
    have h3 := tx_pos h.1
    rw [List.length_cons] at hl
    rw [Nd.wides]
    rw [txN, List.length_append] at hl ⊢
    omega
end
/-! lines put together -/
def JL (ls : List (List Nat)) : Nat := (ls.map (·.length)).sum + ls.length
theorem JL_app (a b : List (List Nat)) : JL (a ++ b) = JL a + JL b := by
  unfold JL
  rw [List.map_append, List.sum_append, List.length_append]
  omega
theorem JL_cut (j : Nat) (ls : List (List Nat)) : JL (ls.take j) + JL (ls.drop j) = JL ls := by rw [← JL_app, List.take_append_drop]
theorem joinL_le : ∀ ls : List (List Nat), (TL.joinL [10] ls).length ≤ JL ls
  | [] => Nat.zero_le _
  | [x] => by show x.length ≤ x.length + 0 + 1; omega
  | x :: y :: r => by
    have ih := joinL_le (y :: r)
    show (x ++ ([10] ++ TL.joinL [10] (y :: r))).length ≤ _
    rw [List.length_append, List.length_append]
    unfold JL at ih ⊢
    simp only [List.map_cons, List.sum_cons, List.length_cons, List.length_nil] at ih ⊢
    omega
theorem joinL_cnt : ∀ ls : List (List Nat), (∀ x ∈ ls, 10 ∉ x) → (TL.joinL [10] ls).count 10 ≤ ls.length - 1
  | [], _ => by show ([] : List Nat).count 10 ≤ 0; simp
  | [x], h => by
    show x.count 10 ≤ 0
    rw [List.count_eq_zero_of_not_mem (h x (List.mem_cons_self ..))]
    exact Nat.le_refl _
  | x :: y :: r, h => by
    have ih := joinL_cnt (y :: r) fun z hz => h z (List.mem_cons_of_mem _ hz)
    show (x ++ ([10] ++ TL.joinL [10] (y :: r))).count 10 ≤ _
    rw [List.count_append, List.count_append, List.count_eq_zero_of_not_mem (h x (List.mem_cons_self ..))]
    simp only [List.length_cons] at ih ⊢
    have : ([10] : List Nat).count 10 = 1 := rfl
    omega
theorem JL_spl : ∀ (l acc : List Nat), JL (TL.spl [10] 0 acc l) = acc.length + l.length + 1
  | [], acc => by rw [TL.spl_nil]; rfl
  | c :: r, acc => by
    by_cases h : c = 10
    · rw [TL.spl_hit (by rw [pre10, decide_eq_true h])]
      have ih := JL_spl r []
      show JL (acc :: TL.spl [10] 0 [] r) = _
      unfold JL at ih ⊢
      simp only [List.map_cons, List.sum_cons, List.length_cons, List.length_nil] at ih ⊢
      omega
    · rw [TL.spl_miss (by rw [pre10, decide_eq_false h]), JL_spl r]
      simp only [List.length_append, List.length_cons, List.length_nil]
      omega
theorem JL_mem {ls : List (List Nat)} {x : List Nat} (h : x ∈ ls) : x.length + 1 ≤ JL ls := by
  obtain ⟨a, b, rfl⟩ := List.append_of_mem h
  rw [JL_app]
  unfold JL
  simp only [List.map_cons, List.sum_cons, List.length_cons]
  omega
theorem cut_put {l z : List Nat} {a b : Nat} (h : a ≤ b) : (l.take a ++ z ++ l.drop b).length ≤ l.length + z.length ∧ (l.take a ++ z ++ l.drop b).count 10 ≤ l.count 10 + z.count 10 := by
  have h1 : (l.drop b).Sublist (l.drop a) := by
    rw [show b = a + (b - a) by omega, ← List.drop_drop]
    exact List.drop_sublist _ _
  have h2 := h1.length_le
  have h3 := h1.count_le 10
  have h4 : (l.take a).length + (l.drop a).length = l.length := by rw [← List.length_append, List.take_append_drop]
  have h5 : (l.take a).count 10 + (l.drop a).count 10 = l.count 10 := by rw [← List.count_append, List.take_append_drop]
  constructor
  · simp only [List.length_append]
    omega
  · simp only [List.count_append]
    omega
end Ly

set_option maxHeartbeats 4000000
namespace K11
open PySem PySem.Spec PyProof.Rows L2 SX Ly
structure Facts (K : PySem.W.Frag) (mg : Str → Option Value) : Prop where
  f_lines_of : DefAt K mg "lines_of" s_lines_of ["nest", "deep"]
  f_outline : DefAt K mg "outline" s_outline ["nest"]
  f_read_outline : DefAt K mg "read_outline" s_read_outline ["text"]
  f_law_mixed : DefAt K mg "_law_mixed" s_law_mixed ["cell", "k"]
  f_law_pot : DefAt K mg "_law_pot" s_law_pot ["cell"]
  f_law_take : DefAt K mg "_law_take" s_law_take ["pot", "many"]
  f_law_sign : DefAt K mg "_law_sign" s_law_sign ["pot"]
  f_law_clean : DefAt K mg "_law_clean" s_law_clean ["pot", "most"]
  f_law_bent : DefAt K mg "_law_bent" s_law_bent ["pot", "text"]
  f_law_long : DefAt K mg "_law_long" s_law_long ["pot", "k"]
  f_law_text : DefAt K mg "_law_text" s_law_text ["pot", "most"]
  f_law_outline : DefAt K mg "_law_outline" s_law_outline ["text"]
  f_law_which : DefAt K mg "_law_which" s_law_which ["caught"]
  f_law_same : DefAt K mg "_law_same" s_law_same ["found", "due"]
  f_law_read : DefAt K mg "_law_read" s_law_read ["text"]
  f_law_any_sign : DefAt K mg "_law_any_sign" s_law_any_sign ["pot"]
  f_law_bent_line : DefAt K mg "_law_bent_line" s_law_bent_line ["pot", "text"]
  f_law_right : DefAt K mg "_law_right" s_law_right ["text"]
  c_LETTERS : ∃ u, mg "LETTERS" = some u ∧ RelV (Tx LET) u
  c_OPENING : ∃ u, mg "OPENING" = some u ∧ RelV (Tx OPN) u
  c_DEEPEST : ∃ u, mg "DEEPEST" = some u ∧ RelV (.int 60) u
  b_len : mg "len" = none
  b_int : mg "int" = none
  b_str : mg "str" = none
  b_range : mg "range" = none
  b_enumerate : mg "enumerate" = none
  b_isinstance : mg "isinstance" = none
  b_list : mg "list" = none
  b_tuple : mg "tuple" = none
  b_bool : mg "bool" = none
  b_min : mg "min" = none
  b_ValueError : mg "ValueError" = none
  g_MendError : mg "MendError" = some (.ref (He.ga K "MendError"))
  c_MendError : ∃ u, mg "MendError" = some u ∧ RelV (V.ref (He.ga K "MendError")) u
  g_NoNest : mg "NoNest" = some (.ref (He.ga K "NoNest"))
  c_NoNest : ∃ u, mg "NoNest" = some u ∧ RelV (V.ref (He.ga K "NoNest")) u
  g_NoDeeds : mg "NoDeeds" = some (.ref (He.ga K "NoDeeds"))
  c_NoDeeds : ∃ u, mg "NoDeeds" = some u ∧ RelV (V.ref (He.ga K "NoDeeds")) u
  g_NoNumber : mg "NoNumber" = some (.ref (He.ga K "NoNumber"))
  c_NoNumber : ∃ u, mg "NoNumber" = some u ∧ RelV (V.ref (He.ga K "NoNumber")) u
  g_NoSign : mg "NoSign" = some (.ref (He.ga K "NoSign"))
  c_NoSign : ∃ u, mg "NoSign" = some u ∧ RelV (V.ref (He.ga K "NoSign")) u
  g_NoWriting : mg "NoWriting" = some (.ref (He.ga K "NoWriting"))
  c_NoWriting : ∃ u, mg "NoWriting" = some u ∧ RelV (V.ref (He.ga K "NoWriting")) u
  g_NoRow : mg "NoRow" = some (.ref (He.ga K "NoRow"))
  c_NoRow : ∃ u, mg "NoRow" = some u ∧ RelV (V.ref (He.ga K "NoRow")) u
  z_NoNest : ErrF K (He.ga K "NoNest") (He.ga K "MendError")
  kv_NoNest : PySem.W.kitOne K (.ref (He.ga K "NoNest")) (.type "ValueError") = some true
  kk_NoNest_NoNest : PySem.W.kitOne K (.ref (He.ga K "NoNest")) (.ref (He.ga K "NoNest")) = some true
  kk_NoNest_NoDeeds : PySem.W.kitOne K (.ref (He.ga K "NoNest")) (.ref (He.ga K "NoDeeds")) = some false
  kk_NoNest_NoNumber : PySem.W.kitOne K (.ref (He.ga K "NoNest")) (.ref (He.ga K "NoNumber")) = some false
  kk_NoNest_NoSign : PySem.W.kitOne K (.ref (He.ga K "NoNest")) (.ref (He.ga K "NoSign")) = some false
  kk_NoNest_NoWriting : PySem.W.kitOne K (.ref (He.ga K "NoNest")) (.ref (He.ga K "NoWriting")) = some false
  kk_NoNest_NoRow : PySem.W.kitOne K (.ref (He.ga K "NoNest")) (.ref (He.ga K "NoRow")) = some false
  z_NoDeeds : ErrF K (He.ga K "NoDeeds") (He.ga K "MendError")
  kv_NoDeeds : PySem.W.kitOne K (.ref (He.ga K "NoDeeds")) (.type "ValueError") = some true
  kk_NoDeeds_NoNest : PySem.W.kitOne K (.ref (He.ga K "NoDeeds")) (.ref (He.ga K "NoNest")) = some false
  kk_NoDeeds_NoDeeds : PySem.W.kitOne K (.ref (He.ga K "NoDeeds")) (.ref (He.ga K "NoDeeds")) = some true
  kk_NoDeeds_NoNumber : PySem.W.kitOne K (.ref (He.ga K "NoDeeds")) (.ref (He.ga K "NoNumber")) = some false
  kk_NoDeeds_NoSign : PySem.W.kitOne K (.ref (He.ga K "NoDeeds")) (.ref (He.ga K "NoSign")) = some false
  kk_NoDeeds_NoWriting : PySem.W.kitOne K (.ref (He.ga K "NoDeeds")) (.ref (He.ga K "NoWriting")) = some false
  kk_NoDeeds_NoRow : PySem.W.kitOne K (.ref (He.ga K "NoDeeds")) (.ref (He.ga K "NoRow")) = some false
  z_NoNumber : ErrF K (He.ga K "NoNumber") (He.ga K "MendError")
  kv_NoNumber : PySem.W.kitOne K (.ref (He.ga K "NoNumber")) (.type "ValueError") = some true
  kk_NoNumber_NoNest : PySem.W.kitOne K (.ref (He.ga K "NoNumber")) (.ref (He.ga K "NoNest")) = some false
  kk_NoNumber_NoDeeds : PySem.W.kitOne K (.ref (He.ga K "NoNumber")) (.ref (He.ga K "NoDeeds")) = some false
  kk_NoNumber_NoNumber : PySem.W.kitOne K (.ref (He.ga K "NoNumber")) (.ref (He.ga K "NoNumber")) = some true
  kk_NoNumber_NoSign : PySem.W.kitOne K (.ref (He.ga K "NoNumber")) (.ref (He.ga K "NoSign")) = some false
  kk_NoNumber_NoWriting : PySem.W.kitOne K (.ref (He.ga K "NoNumber")) (.ref (He.ga K "NoWriting")) = some false
  kk_NoNumber_NoRow : PySem.W.kitOne K (.ref (He.ga K "NoNumber")) (.ref (He.ga K "NoRow")) = some false
  z_NoSign : ErrF K (He.ga K "NoSign") (He.ga K "MendError")
  kv_NoSign : PySem.W.kitOne K (.ref (He.ga K "NoSign")) (.type "ValueError") = some true
  kk_NoSign_NoNest : PySem.W.kitOne K (.ref (He.ga K "NoSign")) (.ref (He.ga K "NoNest")) = some false
  kk_NoSign_NoDeeds : PySem.W.kitOne K (.ref (He.ga K "NoSign")) (.ref (He.ga K "NoDeeds")) = some false
  kk_NoSign_NoNumber : PySem.W.kitOne K (.ref (He.ga K "NoSign")) (.ref (He.ga K "NoNumber")) = some false
  kk_NoSign_NoSign : PySem.W.kitOne K (.ref (He.ga K "NoSign")) (.ref (He.ga K "NoSign")) = some true
  kk_NoSign_NoWriting : PySem.W.kitOne K (.ref (He.ga K "NoSign")) (.ref (He.ga K "NoWriting")) = some false
  kk_NoSign_NoRow : PySem.W.kitOne K (.ref (He.ga K "NoSign")) (.ref (He.ga K "NoRow")) = some false
  z_NoWriting : ErrF K (He.ga K "NoWriting") (He.ga K "MendError")
  kv_NoWriting : PySem.W.kitOne K (.ref (He.ga K "NoWriting")) (.type "ValueError") = some true
  kk_NoWriting_NoNest : PySem.W.kitOne K (.ref (He.ga K "NoWriting")) (.ref (He.ga K "NoNest")) = some false
  kk_NoWriting_NoDeeds : PySem.W.kitOne K (.ref (He.ga K "NoWriting")) (.ref (He.ga K "NoDeeds")) = some false
  kk_NoWriting_NoNumber : PySem.W.kitOne K (.ref (He.ga K "NoWriting")) (.ref (He.ga K "NoNumber")) = some false
  kk_NoWriting_NoSign : PySem.W.kitOne K (.ref (He.ga K "NoWriting")) (.ref (He.ga K "NoSign")) = some false
  kk_NoWriting_NoWriting : PySem.W.kitOne K (.ref (He.ga K "NoWriting")) (.ref (He.ga K "NoWriting")) = some true
  kk_NoWriting_NoRow : PySem.W.kitOne K (.ref (He.ga K "NoWriting")) (.ref (He.ga K "NoRow")) = some false
  z_NoRow : ErrF K (He.ga K "NoRow") (He.ga K "MendError")
  kv_NoRow : PySem.W.kitOne K (.ref (He.ga K "NoRow")) (.type "ValueError") = some true
  kk_NoRow_NoNest : PySem.W.kitOne K (.ref (He.ga K "NoRow")) (.ref (He.ga K "NoNest")) = some false
  kk_NoRow_NoDeeds : PySem.W.kitOne K (.ref (He.ga K "NoRow")) (.ref (He.ga K "NoDeeds")) = some false
  kk_NoRow_NoNumber : PySem.W.kitOne K (.ref (He.ga K "NoRow")) (.ref (He.ga K "NoNumber")) = some false
  kk_NoRow_NoSign : PySem.W.kitOne K (.ref (He.ga K "NoRow")) (.ref (He.ga K "NoSign")) = some false
  kk_NoRow_NoWriting : PySem.W.kitOne K (.ref (He.ga K "NoRow")) (.ref (He.ga K "NoWriting")) = some false
  kk_NoRow_NoRow : PySem.W.kitOne K (.ref (He.ga K "NoRow")) (.ref (He.ga K "NoRow")) = some true
end K11

set_option maxHeartbeats 4000000
namespace K11
open PySem PySem.Spec PyProof.Rows L2 SX Ly
local macro_rules | `(tactic| wtm_at "unf") => `(tactic| (try simp only [tMetX, tOwnX, tChain, tSeq, tNext, tBreak, tCont, tDrop, tRet, tRetN, tIfS, tAsg, tAug, tC, tOp, tUn, tNil, tCons, tOwn, tCB, tTest, tB, tAnd, tOr, tNot, tAndV, tOrV, tNotV, tIf, gName, gSub, tBM, tBM0, tM0, tM1, tSl, tPart_eq, tNoPart, tLst_eq, tTup_eq, tRevL_eq, tReplT, tRevS, tDGet_eq, sDPut_eq, tDNewT_eq, tMet, tMak, tFld_eq, sFld_eq, C8.tCut, wipe, tYes, gTup, gCons, gNil, List.set_cons_zero, List.set_cons_succ, if_true, if_false, Bool.false_eq_true, Bool.not_true, Bool.not_false, true_and, reduceIte, cx_K, tFor_eq, tLc_eq, iStr, iList, iTup, iRng1, iRng2, iRng3, iEnum, iZip, tLstRg, tRg1, gLst, RZ.iZipA, iEnumS, iZipS, tDNewK_eq, tDGet2, tDIn, tDNotIn, iKd]))
local macro_rules | `(tactic| wtm_at "unfA") => `(tactic| (try simp only [tMetX, tOwnX, tChain, tSeq, tNext, tBreak, tCont, tDrop, tRet, tRetN, tIfS, tAsg, tAug, tC, tOp, tUn, tNil, tCons, tOwn, tCB, tTest, tB, tAnd, tOr, tNot, tIf, gName, gSub, tBM, tBM0, tM0, tM1, tSl, tPart_eq, tNoPart, tLst_eq, tTup_eq, tRevL_eq, tReplT, tRevS, tDGet_eq, sDPut_eq, tDNewT_eq, tMet, tMak, tFld_eq, sFld_eq, C8.tCut, wipe, tYes, gTup, gCons, gNil, List.set_cons_zero, List.set_cons_succ, if_true, if_false, Bool.false_eq_true, Bool.not_true, Bool.not_false, true_and, reduceIte, cx_K, tFor_eq, tLc_eq, iStr, iList, iTup, iRng1, iRng2, iRng3, iEnum, iZip, tLstRg, tRg1, gLst, RZ.iZipA, iEnumS, iZipS, tDNewK_eq, tDGet2, tDIn, tDNotIn, iKd]))
local macro_rules | `(tactic| wtm_at "ne") => `(tactic| first | assumption | (apply Ne.symm; assumption) | (apply ne_new; (· assumption); (· wtm_at "lk")) | (apply Ne.symm; apply ne_new; (· assumption); (· wtm_at "lk")))
local macro_rules | `(tactic| wtm_at "lk") => `(tactic| first | assumption | exact upd_same | (apply Same.get; (· assumption); (· wtm_at "lk")) | (apply But.get; (· assumption); (· wtm_at "ne"); (· wtm_at "lk")))
local macro_rules | `(tactic| wtm_at "sq") => `(tactic| first | assumption | (apply sq_of; wtm_at "lk") | (apply Same.seq; (· assumption); (· wtm_at "sq")) | (apply But.sq; (· assumption); (· wtm_at "ne"); (· wtm_at "sq")))
local macro_rules | `(tactic| wtm_at "fr") => `(tactic| first | assumption | (apply Same.fr; (· assumption); (· wtm_at "sm")) | (apply But.fr; (· assumption); (· wtm_at "sm"); (· wtm_at "ne")))
local macro_rules | `(tactic| wtm_at "sm") => `(tactic| first | exact Same.refl _ | exact But.refl | assumption | (apply Same.tr; (· assumption); (· wtm_at "sm")) | (apply Same.b0; (· assumption); (· wtm_at "sm"); (· wtm_at "fr")) | (apply But.sa; (· assumption); (· wtm_at "sm")) | (apply But.tr; (· assumption); (· wtm_at "sm")) | (apply But.b0; (· assumption); (· wtm_at "sm"); (· wtm_at "fr")) | (apply Same.toBut; wtm_at "sm"))
local macro_rules | `(tactic| wtm_at "sc") => `(tactic| first | exact Int.zero_lt_one | (show (0 : Int) < _; omega) | (show (0 : Int) < _; decide) | exact ⟨by omega, by omega⟩ | exact .inl ⟨by omega, by omega⟩ | exact .inr ⟨by omega, by omega⟩)
local macro_rules | `(tactic| wtm_at "go1") => `(tactic| first | ((with_reducible apply g_var); (· exact rfl)) | with_reducible apply g_I0 | ((with_reducible apply g_I); (· wtm_at "sc")) | with_reducible apply g_U | with_reducible apply g_ipI | ((with_reducible apply g_addT); (· first | omega | (simp; done) | (simp; omega))) | with_reducible apply g_inT | with_reducible apply g_ninT | ((with_reducible apply g_lenT); (· omega)) | with_reducible apply g_findT1 | with_reducible apply g_str | with_reducible apply g_part | with_reducible apply g_intB | ((with_reducible apply g_ixL); (· wtm_at "sq"); (· exact rfl)) | ((with_reducible apply g_setL); (· wtm_at "lk"); (· exact rfl)) | ((with_reducible apply g_eq); (· rfl)) | ((with_reducible apply g_ne); (· rfl)))
local macro_rules | `(tactic| wtm_at "go") => `(tactic| repeat wtm_at "go1")
local macro_rules | `(tactic| wtm_at "lp") => `(tactic| skip)
local macro_rules | `(tactic| wtm_at "om") => `(tactic| first | omega | (simp; done) | (simp; omega) | (simp at *; omega))
local macro_rules | `(tactic| wtm_at "ty") => `(tactic| first | exact ty_str | exact ty_int | exact ty_bl | exact ty_non | (apply ty_lst; wtm_at "lk") | (apply ty_tup; wtm_at "lk"))
local macro_rules | `(tactic| wtm_at "kb") => `(tactic| first | exact kb_str_str | exact kb_str_int | exact kb_str_bool | exact kb_str_list | exact kb_str_tuple | exact kb_int_str | exact kb_int_int | exact kb_int_bool | exact kb_int_list | exact kb_int_tuple | exact kb_bool_str | exact kb_bool_int | exact kb_bool_bool | exact kb_bool_list | exact kb_bool_tuple | exact kb_list_str | exact kb_list_int | exact kb_list_bool | exact kb_list_list | exact kb_list_tuple | exact kb_tuple_str | exact kb_tuple_int | exact kb_tuple_bool | exact kb_tuple_list | exact kb_tuple_tuple | exact kb_NoneType_str | exact kb_NoneType_int | exact kb_NoneType_bool | exact kb_NoneType_list | exact kb_NoneType_tuple | exact kb_dict_str | exact kb_dict_int | exact kb_dict_bool | exact kb_dict_list | exact kb_dict_tuple)
local macro_rules | `(tactic| wtm_at "gx1") => `(tactic| first | ((with_reducible apply g_eqS); (· exact rfl)) | ((with_reducible apply g_neS); (· exact rfl)) | wtm_at "go1" | with_reducible apply g_min2 | with_reducible apply g_max2 | with_reducible apply g_T | with_reducible apply g_F | with_reducible apply g_NT | with_reducible apply g_NF | with_reducible apply g_nT | with_reducible apply g_nF | with_reducible apply g_RT | with_reducible apply g_RF | ((with_reducible apply g_isi); (· wtm_at "ty"); (· wtm_at "kb")) | ((with_reducible apply g_ixAU3); (· wtm_at "lk"); (· exact rfl)) | ((with_reducible apply g_ixAL3); (· wtm_at "lk"); (· exact rfl)) | ((with_reducible apply g_ixU3); (· wtm_at "lk"); (· exact rfl)) | ((with_reducible apply g_lenL3); (· wtm_at "lk")) | ((with_reducible apply g_lenU3); (· wtm_at "lk")) | ((with_reducible apply g_tyL3); (· wtm_at "lk")) | ((with_reducible apply g_lenT); (· wtm_at "pv")) | wtm_at "tr" | with_reducible apply g_ET | with_reducible apply g_EF | with_reducible apply g_EnT | with_reducible apply g_EnF)
local macro_rules | `(tactic| wtm_at "pv") => `(tactic| first | exact rfl | assumption | omega | (simp; done) | (simp; omega))
local macro_rules | `(tactic| wtm_at "tr") => `(tactic| first | ((with_reducible apply g_Td); (· wtm_at "pv")) | ((with_reducible apply g_Fd); (· wtm_at "pv")) | ((with_reducible apply g_NTd); (· wtm_at "pv")) | ((with_reducible apply g_NFd); (· wtm_at "pv")) | ((with_reducible apply g_nTd); (· wtm_at "pv")) | ((with_reducible apply g_nFd); (· wtm_at "pv")) | ((with_reducible apply g_RTd); (· wtm_at "pv")) | ((with_reducible apply g_RFd); (· wtm_at "pv")))
local macro_rules | `(tactic| wtm_at "gx") => `(tactic| repeat wtm_at "gx1")
local macro_rules | `(tactic| wtm_at "unfS") => `(tactic| (try simp only [tSeq, tNext, tAsg, tFor_eq, C8.tCut, wipe, gName, tDrop, List.set_cons_zero, List.set_cons_succ, cx_K]))
local macro_rules | `(tactic| wtm_at "rd1") => `(tactic| first | exact rd_int | exact rd_str | exact rd_bl | exact rd_non | exact rda_nil | apply rda_cons | (with_reducible apply rd_tup; (· assumption)) | (with_reducible apply rd_lst; (· assumption)) | exact rd_dic (by assumption) | exact rd_var rfl (.int _) | exact rd_var rfl (.str _) | exact rd_var rfl (.bl _) | exact rd_var rfl (by assumption) | (with_reducible apply rd_cat; (· assumption)) | (with_reducible apply rd_rep2; (· assumption)) | (with_reducible apply rd_rev; (· assumption)) | (with_reducible apply rd_to; (· assumption)) | (with_reducible apply rd_from; (· assumption)) | (with_reducible apply rd_tupOf; (· assumption)) | (with_reducible apply rd_lstOf; (· assumption)) | with_reducible apply rd_lenL | with_reducible apply rd_lenT | with_reducible apply rd_I0 | with_reducible apply rd_I | with_reducible apply rd_U | with_reducible apply rd_eqI | with_reducible apply rd_ixL | with_reducible apply rd_ixT | exact atI_hd _ _ | exact ‹atI _ _ = some _›)
local macro_rules | `(tactic| wtm_at "rdl") => `(tactic| first | decide | omega | wtm_at "sc" | (simp only [List.length_append, List.length_cons, List.length_nil, List.length_map, List.length_take, List.length_drop, List.length_reverse, cutTo]; omega))
local macro_rules | `(tactic| wtm_at "rd") => `(tactic| ((repeat' wtm_at "rd1"); (all_goals wtm_at "rdl")))
local macro_rules | `(tactic| wtm_at "nc") => `(tactic| repeat' (first | assumption | exact nca_nil | exact nc_non | exact nc_bl | exact nc_dic | exact nc_tup0 | exact nc_lst0 | (refine nc_strS (by decide) (by decide)) | (refine nc_int (by omega)) | (refine nc_big (by decide +kernel)) | refine nca_app ?_ ?_ | refine nca_cons ?_ ?_ | refine nca_take ?_ | refine nca_drop ?_ | refine nca_cutTo ?_ | refine nca_rev ?_ | refine nc_tup (by decide) ?_ | refine nc_lst (by decide) ?_ | refine nc_lst (Nat.le_trans (show _ ≤ 45 by wtm_at "rdl") (by decide)) ?_ | refine nc_tup (Nat.le_trans (show _ ≤ 45 by wtm_at "rdl") (by decide)) ?_))

section
variable {P : Program} {w : World} {K : PySem.W.Frag} {mg : Str → Option Value} {base : Heap}
/-- a pot: three ints, the first not below 0 -/
structure Pt where
  a : Int
  c : Int
  n : Int
  h : 0 ≤ a
def Pt.o (P : Pt) : HO := .lst [.int P.a, .int P.c, .int P.n]
/-! _law_mixed -/
def sp_law_mixed : Sp := fun vs H Q _ => ∃ c k : Int, vs = [.int c, .int k] ∧ ∀ r : Int, Q (.int r) H
theorem ok_law_mixed (T : Facts K mg) : C8.Cal P w K mg base 1 "_law_mixed" sp_law_mixed [] := by
  refine calD T.f_law_mixed sc_law_mixed (fun vs H Q E h => ?_) (fun f cdv A outer s H vs Q E hr h => ?_)
  · obtain ⟨c, k, rfl, q⟩ := h; rfl
  · obtain ⟨c, k, rfl, q⟩ := h
    refine ⟨_, (pss_cons (ps_set (i := 2) sc_law_mixed.nd rfl (Or.inl rfl) (pe_op op_mod (pe_op op_mul (pe_op op_add (pe_op op_add (pe_op op_mod (pv 0) pe_int) (pe_op op_mul pe_int (pv 1))) pe_int) pe_int) pe_int))
       (pss_cons (ps_set (i := 2) sc_law_mixed.nd rfl (Or.inl rfl) (pe_op op_mod (pe_op op_mul (pv 2) (pv 2)) pe_int))
       (pss_one (ps_ret (pe_op op_fdiv (pe_op op_mod (pe_op op_mul (pe_op op_add (pv 2) (pe_op op_mul pe_int (pe_op op_add (pv 1) pe_int))) pe_int) pe_int) pe_int))))), ?_⟩
    rw [st_law_mixed]
    wtm_at "unf"
    wtm_at "go"
    exact q _
/-! _law_pot -/
def sp_law_pot : Sp := fun vs H Q _ => ∃ c : Int, vs = [.int c] ∧ ∀ (p : Addr) (P1 : Pt) (H' : Hp), H p = none → Same H H' → H' p = some P1.o → Q (.ref p) H'
theorem ok_law_pot (T : Facts K mg) : C8.Cal P w K mg base 1 "_law_pot" sp_law_pot [] := by
  refine calD T.f_law_pot sc_law_pot (fun vs H Q E h => ?_) (fun f cdv A outer s H vs Q E hr h => ?_)
  · obtain ⟨c, rfl, q⟩ := h; rfl
  · obtain ⟨c, rfl, q⟩ := h
    refine ⟨_, (pss_one (ps_ret (pe_lst (pa_cons (pe_op op_mulW (pe_op op_mod (pv 0) (pe_op op_mulW (pe_op op_mulW (pe_op op_mulW (pe_op op_pow pe_int pe_int) (pe_op op_pow pe_int pe_int)) (pe_op op_pow pe_int pe_int)) (pe_op op_pow pe_int pe_int))) (pe_callTy call_intB rfl T.b_int (by decide +kernel) (pa_cons (pe_cmpR op_ge (pv 0) (pe_op op_pow pe_int pe_int) (nomark _)) pa_nil))) (pa_cons (pv 0) (pa_cons pe_int pa_nil)))))), ?_⟩
    rw [st_law_pot]
    wtm_at "unf"
    wtm_at "go"
    refine g_I (by unfold CMulW; decide +kernel) ?_
    wtm_at "go"
    refine g_I (by unfold CMulW; decide +kernel) ?_
    wtm_at "go"
    refine g_I (by unfold CMulW; decide +kernel) ?_
    refine g_I (by show (0 : Int) < _; decide +kernel) ?_
    wtm_at "go"
    generalize hM : (10 : Int) ^ Int.toNat 50 * 10 ^ Int.toNat 50 * 10 ^ Int.toNat 50 * 10 ^ Int.toNat 50 = M
    have hM0 : 0 < M := by rw [← hM]; decide +kernel
    have hM1 : M.natAbs < 2 ^ 700 := by rw [← hM]; decide +kernel
    have h0 : 0 ≤ c % M := Int.emod_nonneg _ (by omega)
    have h1 : c % M < M := Int.emod_lt_of_pos _ hM0
    refine g_I ?_ ?_
    · refine wide_mul (a := 700) (b := 1) (by omega) ?_ (by decide) (by decide) (by decide)
      split <;> decide
    wtm_at "go"
    refine g_lst (by show 3 ≤ 100000; decide) fun p H1 np s1 e1 => ?_
    refine q p ⟨c % M * (if decide ((10 : Int) ^ Int.toNat 18 ≤ c) = true then 1 else 0), c, 0, ?_⟩ H1 np s1 e1
    split <;> omega
/-! _law_take -/
def sp_law_take : Sp := fun vs H Q _ => ∃ (p : Addr) (P0 : Pt) (m : Int), vs = [.ref p, .int m] ∧ H p = some P0.o ∧ 0 < m ∧ m < 1000000 ∧ ∀ (r : Int) (P1 : Pt) (H' : Hp), 0 ≤ r → r < m → But p H H' → H' p = some P1.o → Q (.int r) H'
theorem ok_law_take (T : Facts K mg) : C8.Cal P w K mg base 2 "_law_take" sp_law_take [] := by
  refine calD T.f_law_take sc_law_take (fun vs H Q E h => ?_) (fun f cdv A outer s H vs Q E hr h => ?_)
  · obtain ⟨p, P0, m, rfl, hp, h0, h1, q⟩ := h; rfl
  · obtain ⟨p, P0, m, rfl, hp, h0, h1, q⟩ := h
    refine ⟨_, (pss_cons (ps_asg (pe_op op_add (pe_ix ix_list (pv 0) pe_int (fun _ _ => rfl)) pe_int) (pg_sub (pv 0) pe_int set_list))
       (pss_cons (ps_if (pt_cmpR op_gt (pe_ix ix_list (pv 0) pe_int (fun _ _ => rfl)) pe_int (nomark _))
       (pss_cons (ps_set (i := 2) sc_law_take.nd rfl (Or.inl rfl) (pe_op op_mod (pe_ix ix_list (pv 0) pe_int (fun _ _ => rfl)) (pv 1)))
       (pss_cons (ps_asg (pe_op op_fdiv (pe_ix ix_list (pv 0) pe_int (fun _ _ => rfl)) (pv 1)) (pg_sub (pv 0) pe_int set_list))
       (pss_one (ps_ret (pv 2)))))
       pss_nil)
       (pss_one (ps_ret (pe_op op_mod (pe_own (ok_law_mixed T) hr (by omega) rfl (pa_cons (pe_ix ix_list (pv 0) pe_int (fun _ _ => rfl)) (pa_cons (pe_ix ix_list (pv 0) pe_int (fun _ _ => rfl)) pa_nil))) (pv 1)))))), ?_⟩
    rw [st_law_take]
    have hp' : H p = some (.lst [.int P0.a, .int P0.c, .int P0.n]) := hp
    wtm_at "unf"
    wtm_at "go"
    intro H1 b1 e1
    wtm_at "go"
    refine g_test (fun h => ?_) (fun h => ?_)
    · wtm_at "go"
      intro H2 b2 e2
      wtm_at "go"
      exact q (P0.a % m) ⟨P0.a / m, P0.c, P0.n + 1, Int.ediv_nonneg P0.h (by omega)⟩ H2 (Int.emod_nonneg _ (by omega)) (Int.emod_lt_of_pos _ h0) (by wtm_at "sm") e2
    · wtm_at "go"
      refine ⟨_, _, rfl, fun r => ?_⟩
      wtm_at "go"
      exact q (r % m) ⟨P0.a, P0.c, P0.n + 1, P0.h⟩ H1 (Int.emod_nonneg _ (by omega)) (Int.emod_lt_of_pos _ h0) (by wtm_at "sm") e1
end
end K11

set_option maxHeartbeats 4000000
namespace K11
open PySem PySem.Spec PyProof.Rows L2 SX Ly
local macro_rules | `(tactic| wtm_at "unf") => `(tactic| (try simp only [tMetX, tOwnX, tChain, tSeq, tNext, tBreak, tCont, tDrop, tRet, tRetN, tIfS, tAsg, tAug, tC, tOp, tUn, tNil, tCons, tOwn, tCB, tTest, tB, tAnd, tOr, tNot, tAndV, tOrV, tNotV, tIf, gName, gSub, tBM, tBM0, tM0, tM1, tSl, tPart_eq, tNoPart, tLst_eq, tTup_eq, tRevL_eq, tReplT, tRevS, tDGet_eq, sDPut_eq, tDNewT_eq, tMet, tMak, tFld_eq, sFld_eq, C8.tCut, wipe, tYes, gTup, gCons, gNil, List.set_cons_zero, List.set_cons_succ, if_true, if_false, Bool.false_eq_true, Bool.not_true, Bool.not_false, true_and, reduceIte, cx_K, tFor_eq, tLc_eq, iStr, iList, iTup, iRng1, iRng2, iRng3, iEnum, iZip, tLstRg, tRg1, gLst, RZ.iZipA, iEnumS, iZipS, tDNewK_eq, tDGet2, tDIn, tDNotIn, iKd]))
local macro_rules | `(tactic| wtm_at "unfA") => `(tactic| (try simp only [tMetX, tOwnX, tChain, tSeq, tNext, tBreak, tCont, tDrop, tRet, tRetN, tIfS, tAsg, tAug, tC, tOp, tUn, tNil, tCons, tOwn, tCB, tTest, tB, tAnd, tOr, tNot, tIf, gName, gSub, tBM, tBM0, tM0, tM1, tSl, tPart_eq, tNoPart, tLst_eq, tTup_eq, tRevL_eq, tReplT, tRevS, tDGet_eq, sDPut_eq, tDNewT_eq, tMet, tMak, tFld_eq, sFld_eq, C8.tCut, wipe, tYes, gTup, gCons, gNil, List.set_cons_zero, List.set_cons_succ, if_true, if_false, Bool.false_eq_true, Bool.not_true, Bool.not_false, true_and, reduceIte, cx_K, tFor_eq, tLc_eq, iStr, iList, iTup, iRng1, iRng2, iRng3, iEnum, iZip, tLstRg, tRg1, gLst, RZ.iZipA, iEnumS, iZipS, tDNewK_eq, tDGet2, tDIn, tDNotIn, iKd]))
local macro_rules | `(tactic| wtm_at "ne") => `(tactic| first | assumption | (apply Ne.symm; assumption) | (apply ne_new; (· assumption); (· wtm_at "lk")) | (apply Ne.symm; apply ne_new; (· assumption); (· wtm_at "lk")))
local macro_rules | `(tactic| wtm_at "lk") => `(tactic| first | assumption | exact upd_same | (apply Same.get; (· assumption); (· wtm_at "lk")) | (apply But.get; (· assumption); (· wtm_at "ne"); (· wtm_at "lk")))
local macro_rules | `(tactic| wtm_at "sq") => `(tactic| first | assumption | (apply sq_of; wtm_at "lk") | (apply Same.seq; (· assumption); (· wtm_at "sq")) | (apply But.sq; (· assumption); (· wtm_at "ne"); (· wtm_at "sq")))
local macro_rules | `(tactic| wtm_at "fr") => `(tactic| first | assumption | (apply Same.fr; (· assumption); (· wtm_at "sm")) | (apply But.fr; (· assumption); (· wtm_at "sm"); (· wtm_at "ne")))
local macro_rules | `(tactic| wtm_at "sm") => `(tactic| first | exact Same.refl _ | exact But.refl | assumption | (apply Same.tr; (· assumption); (· wtm_at "sm")) | (apply Same.b0; (· assumption); (· wtm_at "sm"); (· wtm_at "fr")) | (apply But.sa; (· assumption); (· wtm_at "sm")) | (apply But.tr; (· assumption); (· wtm_at "sm")) | (apply But.b0; (· assumption); (· wtm_at "sm"); (· wtm_at "fr")) | (apply Same.toBut; wtm_at "sm"))
local macro_rules | `(tactic| wtm_at "sc") => `(tactic| first | exact Int.zero_lt_one | (show (0 : Int) < _; omega) | (show (0 : Int) < _; decide) | exact ⟨by omega, by omega⟩ | exact .inl ⟨by omega, by omega⟩ | exact .inr ⟨by omega, by omega⟩)
local macro_rules | `(tactic| wtm_at "go1") => `(tactic| first | ((with_reducible apply g_var); (· exact rfl)) | with_reducible apply g_I0 | ((with_reducible apply g_I); (· wtm_at "sc")) | with_reducible apply g_U | with_reducible apply g_ipI | ((with_reducible apply g_addT); (· first | omega | (simp; done) | (simp; omega))) | with_reducible apply g_inT | with_reducible apply g_ninT | ((with_reducible apply g_lenT); (· omega)) | with_reducible apply g_findT1 | with_reducible apply g_str | with_reducible apply g_part | with_reducible apply g_intB | ((with_reducible apply g_ixL); (· wtm_at "sq"); (· exact rfl)) | ((with_reducible apply g_setL); (· wtm_at "lk"); (· exact rfl)) | ((with_reducible apply g_eq); (· rfl)) | ((with_reducible apply g_ne); (· rfl)))
local macro_rules | `(tactic| wtm_at "go") => `(tactic| repeat wtm_at "go1")
local macro_rules | `(tactic| wtm_at "lp") => `(tactic| skip)
local macro_rules | `(tactic| wtm_at "om") => `(tactic| first | omega | (simp; done) | (simp; omega) | (simp at *; omega))
local macro_rules | `(tactic| wtm_at "ty") => `(tactic| first | exact ty_str | exact ty_int | exact ty_bl | exact ty_non | (apply ty_lst; wtm_at "lk") | (apply ty_tup; wtm_at "lk"))
local macro_rules | `(tactic| wtm_at "kb") => `(tactic| first | exact kb_str_str | exact kb_str_int | exact kb_str_bool | exact kb_str_list | exact kb_str_tuple | exact kb_int_str | exact kb_int_int | exact kb_int_bool | exact kb_int_list | exact kb_int_tuple | exact kb_bool_str | exact kb_bool_int | exact kb_bool_bool | exact kb_bool_list | exact kb_bool_tuple | exact kb_list_str | exact kb_list_int | exact kb_list_bool | exact kb_list_list | exact kb_list_tuple | exact kb_tuple_str | exact kb_tuple_int | exact kb_tuple_bool | exact kb_tuple_list | exact kb_tuple_tuple | exact kb_NoneType_str | exact kb_NoneType_int | exact kb_NoneType_bool | exact kb_NoneType_list | exact kb_NoneType_tuple | exact kb_dict_str | exact kb_dict_int | exact kb_dict_bool | exact kb_dict_list | exact kb_dict_tuple)
local macro_rules | `(tactic| wtm_at "gx1") => `(tactic| first | ((with_reducible apply g_eqS); (· exact rfl)) | ((with_reducible apply g_neS); (· exact rfl)) | wtm_at "go1" | with_reducible apply g_min2 | with_reducible apply g_max2 | with_reducible apply g_T | with_reducible apply g_F | with_reducible apply g_NT | with_reducible apply g_NF | with_reducible apply g_nT | with_reducible apply g_nF | with_reducible apply g_RT | with_reducible apply g_RF | ((with_reducible apply g_isi); (· wtm_at "ty"); (· wtm_at "kb")) | ((with_reducible apply g_ixAU3); (· wtm_at "lk"); (· exact rfl)) | ((with_reducible apply g_ixAL3); (· wtm_at "lk"); (· exact rfl)) | ((with_reducible apply g_ixU3); (· wtm_at "lk"); (· exact rfl)) | ((with_reducible apply g_lenL3); (· wtm_at "lk")) | ((with_reducible apply g_lenU3); (· wtm_at "lk")) | ((with_reducible apply g_tyL3); (· wtm_at "lk")) | ((with_reducible apply g_lenT); (· wtm_at "pv")) | wtm_at "tr" | with_reducible apply g_ET | with_reducible apply g_EF | with_reducible apply g_EnT | with_reducible apply g_EnF)
local macro_rules | `(tactic| wtm_at "pv") => `(tactic| first | exact rfl | assumption | omega | (simp; done) | (simp; omega))
local macro_rules | `(tactic| wtm_at "tr") => `(tactic| first | ((with_reducible apply g_Td); (· wtm_at "pv")) | ((with_reducible apply g_Fd); (· wtm_at "pv")) | ((with_reducible apply g_NTd); (· wtm_at "pv")) | ((with_reducible apply g_NFd); (· wtm_at "pv")) | ((with_reducible apply g_nTd); (· wtm_at "pv")) | ((with_reducible apply g_nFd); (· wtm_at "pv")) | ((with_reducible apply g_RTd); (· wtm_at "pv")) | ((with_reducible apply g_RFd); (· wtm_at "pv")))
local macro_rules | `(tactic| wtm_at "gx") => `(tactic| repeat wtm_at "gx1")
local macro_rules | `(tactic| wtm_at "unfS") => `(tactic| (try simp only [tSeq, tNext, tAsg, tFor_eq, C8.tCut, wipe, gName, tDrop, List.set_cons_zero, List.set_cons_succ, cx_K]))
local macro_rules | `(tactic| wtm_at "rd1") => `(tactic| first | exact rd_int | exact rd_str | exact rd_bl | exact rd_non | exact rda_nil | apply rda_cons | (with_reducible apply rd_tup; (· assumption)) | (with_reducible apply rd_lst; (· assumption)) | exact rd_dic (by assumption) | exact rd_var rfl (.int _) | exact rd_var rfl (.str _) | exact rd_var rfl (.bl _) | exact rd_var rfl (by assumption) | (with_reducible apply rd_cat; (· assumption)) | (with_reducible apply rd_rep2; (· assumption)) | (with_reducible apply rd_rev; (· assumption)) | (with_reducible apply rd_to; (· assumption)) | (with_reducible apply rd_from; (· assumption)) | (with_reducible apply rd_tupOf; (· assumption)) | (with_reducible apply rd_lstOf; (· assumption)) | with_reducible apply rd_lenL | with_reducible apply rd_lenT | with_reducible apply rd_I0 | with_reducible apply rd_I | with_reducible apply rd_U | with_reducible apply rd_eqI | with_reducible apply rd_ixL | with_reducible apply rd_ixT | exact atI_hd _ _ | exact ‹atI _ _ = some _›)
local macro_rules | `(tactic| wtm_at "rdl") => `(tactic| first | decide | omega | wtm_at "sc" | (simp only [List.length_append, List.length_cons, List.length_nil, List.length_map, List.length_take, List.length_drop, List.length_reverse, cutTo]; omega))
local macro_rules | `(tactic| wtm_at "rd") => `(tactic| ((repeat' wtm_at "rd1"); (all_goals wtm_at "rdl")))
local macro_rules | `(tactic| wtm_at "nc") => `(tactic| repeat' (first | assumption | exact nca_nil | exact nc_non | exact nc_bl | exact nc_dic | exact nc_tup0 | exact nc_lst0 | (refine nc_strS (by decide) (by decide)) | (refine nc_int (by omega)) | (refine nc_big (by decide +kernel)) | refine nca_app ?_ ?_ | refine nca_cons ?_ ?_ | refine nca_take ?_ | refine nca_drop ?_ | refine nca_cutTo ?_ | refine nca_rev ?_ | refine nc_tup (by decide) ?_ | refine nc_lst (by decide) ?_ | refine nc_lst (Nat.le_trans (show _ ≤ 45 by wtm_at "rdl") (by decide)) ?_ | refine nc_tup (Nat.le_trans (show _ ≤ 45 by wtm_at "rdl") (by decide)) ?_))

section
variable {P : Program} {w : World} {K : PySem.W.Frag} {mg : Str → Option Value} {base : Heap}
/-- a text's signs from behind, each bracket the other one of its kind -/
def oth1 (c : Nat) : Nat := if c ∈ BRK then oth c else c
def about (l : List Nat) : List Nat := (l.map oth1).reverse
end
end K11

set_option maxHeartbeats 4000000
namespace K11
open PySem PySem.Spec PyProof.Rows L2 SX Ly
local macro_rules | `(tactic| wtm_at "unf") => `(tactic| (try simp only [tMetX, tOwnX, tChain, tSeq, tNext, tBreak, tCont, tDrop, tRet, tRetN, tIfS, tAsg, tAug, tC, tOp, tUn, tNil, tCons, tOwn, tCB, tTest, tB, tAnd, tOr, tNot, tAndV, tOrV, tNotV, tIf, gName, gSub, tBM, tBM0, tM0, tM1, tSl, tPart_eq, tNoPart, tLst_eq, tTup_eq, tRevL_eq, tReplT, tRevS, tDGet_eq, sDPut_eq, tDNewT_eq, tMet, tMak, tFld_eq, sFld_eq, C8.tCut, wipe, tYes, gTup, gCons, gNil, List.set_cons_zero, List.set_cons_succ, if_true, if_false, Bool.false_eq_true, Bool.not_true, Bool.not_false, true_and, reduceIte, cx_K, tFor_eq, tLc_eq, iStr, iList, iTup, iRng1, iRng2, iRng3, iEnum, iZip, tLstRg, tRg1, gLst, RZ.iZipA, iEnumS, iZipS, tDNewK_eq, tDGet2, tDIn, tDNotIn, iKd]))
local macro_rules | `(tactic| wtm_at "unfA") => `(tactic| (try simp only [tMetX, tOwnX, tChain, tSeq, tNext, tBreak, tCont, tDrop, tRet, tRetN, tIfS, tAsg, tAug, tC, tOp, tUn, tNil, tCons, tOwn, tCB, tTest, tB, tAnd, tOr, tNot, tIf, gName, gSub, tBM, tBM0, tM0, tM1, tSl, tPart_eq, tNoPart, tLst_eq, tTup_eq, tRevL_eq, tReplT, tRevS, tDGet_eq, sDPut_eq, tDNewT_eq, tMet, tMak, tFld_eq, sFld_eq, C8.tCut, wipe, tYes, gTup, gCons, gNil, List.set_cons_zero, List.set_cons_succ, if_true, if_false, Bool.false_eq_true, Bool.not_true, Bool.not_false, true_and, reduceIte, cx_K, tFor_eq, tLc_eq, iStr, iList, iTup, iRng1, iRng2, iRng3, iEnum, iZip, tLstRg, tRg1, gLst, RZ.iZipA, iEnumS, iZipS, tDNewK_eq, tDGet2, tDIn, tDNotIn, iKd]))
local macro_rules | `(tactic| wtm_at "ne") => `(tactic| first | assumption | (apply Ne.symm; assumption) | (apply ne_new; (· assumption); (· wtm_at "lk")) | (apply Ne.symm; apply ne_new; (· assumption); (· wtm_at "lk")))
local macro_rules | `(tactic| wtm_at "lk") => `(tactic| first | assumption | exact upd_same | (apply Same.get; (· assumption); (· wtm_at "lk")) | (apply But.get; (· assumption); (· wtm_at "ne"); (· wtm_at "lk")))
local macro_rules | `(tactic| wtm_at "sq") => `(tactic| first | assumption | (apply sq_of; wtm_at "lk") | (apply Same.seq; (· assumption); (· wtm_at "sq")) | (apply But.sq; (· assumption); (· wtm_at "ne"); (· wtm_at "sq")))
local macro_rules | `(tactic| wtm_at "fr") => `(tactic| first | assumption | (apply Same.fr; (· assumption); (· wtm_at "sm")) | (apply But.fr; (· assumption); (· wtm_at "sm"); (· wtm_at "ne")))
local macro_rules | `(tactic| wtm_at "sm") => `(tactic| first | exact Same.refl _ | exact But.refl | assumption | (apply Same.tr; (· assumption); (· wtm_at "sm")) | (apply Same.b0; (· assumption); (· wtm_at "sm"); (· wtm_at "fr")) | (apply But.sa; (· assumption); (· wtm_at "sm")) | (apply But.tr; (· assumption); (· wtm_at "sm")) | (apply But.b0; (· assumption); (· wtm_at "sm"); (· wtm_at "fr")) | (apply Same.toBut; wtm_at "sm"))
local macro_rules | `(tactic| wtm_at "sc") => `(tactic| first | exact Int.zero_lt_one | (show (0 : Int) < _; omega) | (show (0 : Int) < _; decide) | exact ⟨by omega, by omega⟩ | exact .inl ⟨by omega, by omega⟩ | exact .inr ⟨by omega, by omega⟩)
local macro_rules | `(tactic| wtm_at "go1") => `(tactic| first | ((with_reducible apply g_var); (· exact rfl)) | with_reducible apply g_I0 | ((with_reducible apply g_I); (· wtm_at "sc")) | with_reducible apply g_U | with_reducible apply g_ipI | ((with_reducible apply g_addT); (· first | omega | (simp; done) | (simp; omega))) | with_reducible apply g_inT | with_reducible apply g_ninT | ((with_reducible apply g_lenT); (· omega)) | with_reducible apply g_findT1 | with_reducible apply g_str | with_reducible apply g_part | with_reducible apply g_intB | ((with_reducible apply g_ixL); (· wtm_at "sq"); (· exact rfl)) | ((with_reducible apply g_setL); (· wtm_at "lk"); (· exact rfl)) | ((with_reducible apply g_eq); (· rfl)) | ((with_reducible apply g_ne); (· rfl)))
local macro_rules | `(tactic| wtm_at "go") => `(tactic| repeat wtm_at "go1")
local macro_rules | `(tactic| wtm_at "lp") => `(tactic| skip)
local macro_rules | `(tactic| wtm_at "om") => `(tactic| first | omega | (simp; done) | (simp; omega) | (simp at *; omega))
local macro_rules | `(tactic| wtm_at "ty") => `(tactic| first | exact ty_str | exact ty_int | exact ty_bl | exact ty_non | (apply ty_lst; wtm_at "lk") | (apply ty_tup; wtm_at "lk"))
local macro_rules | `(tactic| wtm_at "kb") => `(tactic| first | exact kb_str_str | exact kb_str_int | exact kb_str_bool | exact kb_str_list | exact kb_str_tuple | exact kb_int_str | exact kb_int_int | exact kb_int_bool | exact kb_int_list | exact kb_int_tuple | exact kb_bool_str | exact kb_bool_int | exact kb_bool_bool | exact kb_bool_list | exact kb_bool_tuple | exact kb_list_str | exact kb_list_int | exact kb_list_bool | exact kb_list_list | exact kb_list_tuple | exact kb_tuple_str | exact kb_tuple_int | exact kb_tuple_bool | exact kb_tuple_list | exact kb_tuple_tuple | exact kb_NoneType_str | exact kb_NoneType_int | exact kb_NoneType_bool | exact kb_NoneType_list | exact kb_NoneType_tuple | exact kb_dict_str | exact kb_dict_int | exact kb_dict_bool | exact kb_dict_list | exact kb_dict_tuple)
local macro_rules | `(tactic| wtm_at "gx1") => `(tactic| first | ((with_reducible apply g_eqS); (· exact rfl)) | ((with_reducible apply g_neS); (· exact rfl)) | wtm_at "go1" | with_reducible apply g_min2 | with_reducible apply g_max2 | with_reducible apply g_T | with_reducible apply g_F | with_reducible apply g_NT | with_reducible apply g_NF | with_reducible apply g_nT | with_reducible apply g_nF | with_reducible apply g_RT | with_reducible apply g_RF | ((with_reducible apply g_isi); (· wtm_at "ty"); (· wtm_at "kb")) | ((with_reducible apply g_ixAU3); (· wtm_at "lk"); (· exact rfl)) | ((with_reducible apply g_ixAL3); (· wtm_at "lk"); (· exact rfl)) | ((with_reducible apply g_ixU3); (· wtm_at "lk"); (· exact rfl)) | ((with_reducible apply g_lenL3); (· wtm_at "lk")) | ((with_reducible apply g_lenU3); (· wtm_at "lk")) | ((with_reducible apply g_tyL3); (· wtm_at "lk")) | ((with_reducible apply g_lenT); (· wtm_at "pv")) | wtm_at "tr" | with_reducible apply g_ET | with_reducible apply g_EF | with_reducible apply g_EnT | with_reducible apply g_EnF)
local macro_rules | `(tactic| wtm_at "pv") => `(tactic| first | exact rfl | assumption | omega | (simp; done) | (simp; omega))
local macro_rules | `(tactic| wtm_at "tr") => `(tactic| first | ((with_reducible apply g_Td); (· wtm_at "pv")) | ((with_reducible apply g_Fd); (· wtm_at "pv")) | ((with_reducible apply g_NTd); (· wtm_at "pv")) | ((with_reducible apply g_NFd); (· wtm_at "pv")) | ((with_reducible apply g_nTd); (· wtm_at "pv")) | ((with_reducible apply g_nFd); (· wtm_at "pv")) | ((with_reducible apply g_RTd); (· wtm_at "pv")) | ((with_reducible apply g_RFd); (· wtm_at "pv")))
local macro_rules | `(tactic| wtm_at "gx") => `(tactic| repeat wtm_at "gx1")
local macro_rules | `(tactic| wtm_at "unfS") => `(tactic| (try simp only [tSeq, tNext, tAsg, tFor_eq, C8.tCut, wipe, gName, tDrop, List.set_cons_zero, List.set_cons_succ, cx_K]))
local macro_rules | `(tactic| wtm_at "rd1") => `(tactic| first | exact rd_int | exact rd_str | exact rd_bl | exact rd_non | exact rda_nil | apply rda_cons | (with_reducible apply rd_tup; (· assumption)) | (with_reducible apply rd_lst; (· assumption)) | exact rd_dic (by assumption) | exact rd_var rfl (.int _) | exact rd_var rfl (.str _) | exact rd_var rfl (.bl _) | exact rd_var rfl (by assumption) | (with_reducible apply rd_cat; (· assumption)) | (with_reducible apply rd_rep2; (· assumption)) | (with_reducible apply rd_rev; (· assumption)) | (with_reducible apply rd_to; (· assumption)) | (with_reducible apply rd_from; (· assumption)) | (with_reducible apply rd_tupOf; (· assumption)) | (with_reducible apply rd_lstOf; (· assumption)) | with_reducible apply rd_lenL | with_reducible apply rd_lenT | with_reducible apply rd_I0 | with_reducible apply rd_I | with_reducible apply rd_U | with_reducible apply rd_eqI | with_reducible apply rd_ixL | with_reducible apply rd_ixT | exact atI_hd _ _ | exact ‹atI _ _ = some _›)
local macro_rules | `(tactic| wtm_at "rdl") => `(tactic| first | decide | omega | wtm_at "sc" | (simp only [List.length_append, List.length_cons, List.length_nil, List.length_map, List.length_take, List.length_drop, List.length_reverse, cutTo]; omega))
local macro_rules | `(tactic| wtm_at "rd") => `(tactic| ((repeat' wtm_at "rd1"); (all_goals wtm_at "rdl")))
local macro_rules | `(tactic| wtm_at "nc") => `(tactic| repeat' (first | assumption | exact nca_nil | exact nc_non | exact nc_bl | exact nc_dic | exact nc_tup0 | exact nc_lst0 | (refine nc_strS (by decide) (by decide)) | (refine nc_int (by omega)) | (refine nc_big (by decide +kernel)) | refine nca_app ?_ ?_ | refine nca_cons ?_ ?_ | refine nca_take ?_ | refine nca_drop ?_ | refine nca_cutTo ?_ | refine nca_rev ?_ | refine nc_tup (by decide) ?_ | refine nc_lst (by decide) ?_ | refine nc_lst (Nat.le_trans (show _ ≤ 45 by wtm_at "rdl") (by decide)) ?_ | refine nc_tup (Nat.le_trans (show _ ≤ 45 by wtm_at "rdl") (by decide)) ?_))

section
variable {P : Program} {w : World} {K : PySem.W.Frag} {mg : Str → Option Value} {base : Heap}
/-! _law_sign -/
/-! _law_long -/
def sp_law_long : Sp := fun vs H Q _ => ∃ (p : Addr) (P0 : Pt) (k : Int), vs = [.ref p, .int k] ∧ H p = some P0.o ∧ ∀ (r : Nat) (P1 : Pt) (H' : Hp), r ≤ 120 → But p H H' → H' p = some P1.o → Q (.int r) H'
theorem ok_law_long (T : Facts K mg) : C8.Cal P w K mg base 3 "_law_long" sp_law_long [] := by
  refine calD T.f_law_long sc_law_long (fun vs H Q E h => ?_) (fun f cdv A outer s H vs Q E hr h => ?_)
  · obtain ⟨p, P0, k, rfl, hp, q⟩ := h; rfl
  · obtain ⟨p, P0, k, rfl, hp, q⟩ := h
    refine ⟨_, (pss_cons (ps_ifC (PW.pt (pw_and (pt_cmpR op_eq (pv 1) pe_int (nomark _)) (pw_and1 (pt_cmpR op_eq (pe_own (ok_law_take T) hr (by omega) rfl (pa_cons (pv 0) (pa_cons pe_int pa_nil))) pe_int (nomark _)))))
       (pss_one (ps_ret (pe_op op_sub pe_int (pe_op op_mul (pe_own (ok_law_take T) hr (by omega) rfl (pa_cons (pv 0) (pa_cons pe_int pa_nil))) (pe_own (ok_law_take T) hr (by omega) rfl (pa_cons (pv 0) (pa_cons pe_int pa_nil)))))))
       pss_nil)
       (pss_one (ps_ret (pe_own (ok_law_take T) hr (by omega) rfl (pa_cons (pv 0) (pa_cons (pe_ix ix_list (pe_lst (pa_cons pe_int (pa_cons pe_int (pa_cons pe_int pa_nil)))) (pe_own (ok_law_take T) hr (by omega) rfl (pa_cons (pv 0) (pa_cons pe_int pa_nil))) (fun _ _ => rfl)) pa_nil)))))), ?_⟩
    rw [st_law_long]
    have tail : ∀ (Hx : Hp) (Px : Pt), But p H Hx → Hx p = some Px.o → rLstN [V.int 6, V.int 14, V.int 30] Hx (fun v H1 => tVar 0 [some (V.ref p), some (V.int k)] H1 fun x1 H1 => sp_law_take [x1, V.int 3] H1 (fun y H2 => rIxL K v y H2 fun x2 H1 => sp_law_take [V.ref p, x2] H1 Q C8.E0) C8.E0) := by
      intro Hx Px bx ex
      refine g_lst (by show 3 ≤ 100000; decide) fun a H4 na s4 e4 => ?_
      wtm_at "go"
      refine ⟨p, Px, 3, rfl, by wtm_at "lk", by decide, by decide, fun r P1 H1 r0 r1 b1 e1 => ?_⟩
      have key : ∃ z : Int, 0 < z ∧ z ≤ 30 ∧ atI [V.int 6, V.int 14, V.int 30] r = some (.int z) := by
        by_cases h0 : r = 0
        · subst h0; exact ⟨6, by decide, by decide, rfl⟩
        by_cases h1 : r = 1
        · subst h1; exact ⟨14, by decide, by decide, rfl⟩
        · have : r = 2 := by omega
          subst this; exact ⟨30, by decide, by decide, rfl⟩
      obtain ⟨z, z0, z1, ez⟩ := key
      have nap : a ≠ p := by wtm_at "ne"
      refine g_ixL (sq_of (by wtm_at "lk")) ez ?_
      refine ⟨p, P1, z, rfl, e1, z0, by omega, fun y P2 H2 y0 y1 b2 e2 => ?_⟩
      obtain ⟨y', rfl⟩ := Int.eq_ofNat_of_zero_le y0
      exact q y' P2 H2 (by omega) (by wtm_at "sm") e2
    simp only [tIfC]
    wtm_at "unf"
    wtm_at "go"
    refine g_test (fun h => ?_) (fun h => ?_)
    · wtm_at "go"
      refine ⟨p, P0, 8, rfl, hp, by decide, by decide, fun r P1 H1 r0 r1 b1 e1 => ?_⟩
      wtm_at "go"
      refine g_test (fun h => ?_) (fun h => ?_)
      · wtm_at "go"
        refine ⟨p, P1, 2, rfl, e1, by decide, by decide, fun x P2 H2 x0 x1 b2 e2 => ?_⟩
        wtm_at "go"
        refine ⟨p, P2, 90, rfl, e2, by decide, by decide, fun y P3 H3 y0 y1 b3 e3 => ?_⟩
        wtm_at "go"
        have hx : x = 0 ∨ x = 1 := by omega
        have e : ∃ z : Nat, z ≤ 120 ∧ 120 - x * y = (z : Int) := by
          rcases hx with rfl | rfl
          · exact ⟨120, by omega, by omega⟩
          · exact ⟨(120 - y).toNat, by omega, by omega⟩
        obtain ⟨z, hz, ez⟩ := e
        rw [ez]
        exact q z P3 H3 hz (by wtm_at "sm") e3
      · wtm_at "go"
        exact tail _ _ (by wtm_at "sm") e1
    · wtm_at "go"
      exact tail _ _ But.refl hp
/-! _law_clean -/
def sp_law_clean : Sp := fun vs H Q _ => ∃ (p : Addr) (P0 : Pt) (m : Nat), vs = [.ref p, .int m] ∧ H p = some P0.o ∧ m ≤ 1000 ∧ ∀ (l : List Nat) (P1 : Pt) (H' : Hp), (∀ c ∈ l, isSg c) → l.length ≤ m → clean l → But p H H' → H' p = some P1.o → Q (Tx l) H'
theorem ok_law_clean (T : Facts K mg) : C8.Cal P w K mg base 3 "_law_clean" sp_law_clean [] := by
  refine calD T.f_law_clean sc_law_clean (fun vs H Q E h => ?_) (fun f cdv A outer s H vs Q E hr h => ?_)
  · obtain ⟨p, P0, m, rfl, hp, hm, q⟩ := h; rfl
  · obtain ⟨p, P0, m, rfl, hp, hm, q⟩ := h
    refine ⟨_, (pss_cons (ps_set (i := 2) sc_law_clean.nd rfl (Or.inl rfl) (pe_strS (l := []) (by decide +kernel)))
       (pss_cons (ps_set (i := 3) sc_law_clean.nd rfl (Or.inl rfl) (pe_lst pa_nil))
       (pss_cons (ps_set (i := 4) sc_law_clean.nd rfl (Or.inl rfl) (pe_lst (pa_cons (pe_op op_add pe_int (pe_own (ok_law_take T) hr (by omega) rfl (pa_cons (pv 0) (pa_cons pe_int pa_nil)))) (pa_cons (pe_op op_add pe_int (pe_own (ok_law_take T) hr (by omega) rfl (pa_cons (pv 0) (pa_cons pe_int pa_nil)))) pa_nil))))
       (pss_cons (ps_set (i := 5) sc_law_clean.nd rfl (Or.inl rfl) (pv 1))
       (pss_cons (ps_while PassesOwn.never (pt_cmpR op_gt (pv 5) pe_int (nomark _))
       (pss_cons (ps_set (i := 6) sc_law_clean.nd rfl (Or.inl rfl) (pe_own (ok_law_take T) hr (by omega) rfl (pa_cons (pv 0) (pa_cons (pe_op op_add (pe_op op_add pe_int (pe_ix ix_list (pv 4) pe_int (fun _ _ => rfl))) (pe_ix ix_list (pv 4) pe_int (fun _ _ => rfl))) pa_nil))))
       (pss_one (ps_if (pt_cmpR op_eq (pv 6) pe_int (nomark _))
       (pss_cons (ps_set (i := 2) sc_law_clean.nd rfl (Or.inl rfl) (pe_op op_addT (pv 2) (pe_ix ix_txt (pe_strS (l := LET) (by decide +kernel)) (pe_own (ok_law_take T) hr (by omega) rfl (pa_cons (pv 0) (pa_cons pe_int pa_nil))) (fun _ _ => rfl))))
       (pss_one (ps_set (i := 5) sc_law_clean.nd rfl (Or.inl rfl) (pe_op op_sub (pv 5) pe_int))))
       (pss_one (ps_ifC (PW.pt (pw_and (pt_cmpR op_le (pv 6) (pe_ix ix_list (pv 4) pe_int (fun _ _ => rfl)) (nomark _)) (pw_and1 (pt_cmpR op_gt (pv 5) pe_int (nomark _)))))
       (pss_cons (ps_set (i := 7) sc_law_clean.nd rfl (Or.inl rfl) (pe_own (ok_law_take T) hr (by omega) rfl (pa_cons (pv 0) (pa_cons pe_int pa_nil))))
       (pss_cons (ps_set (i := 2) sc_law_clean.nd rfl (Or.inl rfl) (pe_op op_addT (pv 2) (pe_ix ix_txt (pe_strS (l := OPN) (by decide +kernel)) (pv 7) (fun _ _ => rfl))))
       (pss_cons (ps_expr (pe_bm PySem.F.plainAttrs_list PySem.F.slot_list_append PySem.F.type_list_append mt_append (pv 3) (pa_cons (pe_ix ix_txt (pe_strS (l := CLO) (by decide +kernel)) (pv 7) (fun _ _ => rfl)) pa_nil)))
       (pss_one (ps_set (i := 5) sc_law_clean.nd rfl (Or.inl rfl) (pe_op op_sub (pv 5) pe_int))))))
       (pss_one (ps_if (pt_cmpR (op_neD hr.units) (pv 3) (pe_lst pa_nil) (nomark _))
       (pss_one (ps_set (i := 2) sc_law_clean.nd rfl (Or.inl rfl) (pe_op op_addT (pv 2) (pe_bm0 PySem.F.plainAttrs_list PySem.F.slot_list_pop PySem.F.type_list_pop mt_pop (pv 3)))))
       (pss_one (ps_set (i := 5) sc_law_clean.nd rfl (Or.inl rfl) (pe_op op_sub (pv 5) pe_int)))))))))))
       (pss_one (ps_ret (pe_op op_addT (pv 2) (pe_m1 PySem.F.slot_str_join PySem.F.type_str_join mt_joinT (pe_strS (l := []) (by decide +kernel)) (pe_revL (pv 3))))))))))), ?_⟩
    rw [st_law_clean]
    wtm_at "unf"
    wtm_at "go"
    refine g_lst (by show 0 ≤ 100000; decide) fun wa H1 nwa s1 ewa => ?_
    wtm_at "go"
    refine ⟨p, P0, 4, rfl, by wtm_at "lk", by decide, by decide, fun a P2 H2 a0 a1 b2 e2 => ?_⟩
    wtm_at "go"
    refine ⟨p, P2, 3, rfl, e2, by decide, by decide, fun b P3 H3 b0 b1 b3 e3 => ?_⟩
    wtm_at "go"
    refine g_lst (by show 2 ≤ 100000; decide) fun sh H4 nsh s4 esh => ?_
    wtm_at "go"
    have hwp : wa ≠ p := by wtm_at "ne"
    have hw4 : H4 wa = some (.lst []) := by wtm_at "lk"
    have hp4 : H4 p = some P3.o := by wtm_at "lk"
    have hsw : sh ≠ wa := by wtm_at "ne"
    have hsp : sh ≠ p := by wtm_at "ne"
    have b4 : But p H H4 := by wtm_at "sm"
    have nsh0 : H sh = none := by wtm_at "fr"
    refine g_while (fun k σ H' => ∃ (t w : List Nat) (left : Nat) (y6 y7 : Option V) (P5 : Pt), σ = [some (V.ref p), some (V.int m), some (Tx t), some (V.ref wa), some (V.ref sh), some (V.int left), y6, y7] ∧ k = 2 * left + w.length ∧
      t.length + w.length + left ≤ m ∧ (∀ c ∈ t, isSg c) ∧ (∀ c ∈ w, c ∈ CLO) ∧ run t = some w.reverse ∧ H' wa = some (.lst (sgV w)) ∧ H' sh = some (.lst [.int (1 + a), .int (1 + b)]) ∧ H' p = some P5.o ∧ But p H H') (2 * m) ⟨[], [], m, none, none, P3, rfl, by simp, by simp, by simp, by simp, rfl, hw4, esh, hp4, b4⟩ (fun k σ H' hv => ?_)
    obtain ⟨t, w, left, y6, y7, P5, rfl, rfl, hlen, ht, hw, hrun, ew, es, ep, bH⟩ := hv
    wtm_at "unf"
    wtm_at "go"
    refine g_test (fun h => ?_) (fun h => ?_)
    · refine g_whb ?_
      wtm_at "unf"
      wtm_at "go"
      refine ⟨p, P5, _, rfl, ep, by omega, by omega, fun r P6 H6 r0 r1 b6 e6 => ?_⟩
      wtm_at "go"
      have ew6 : H6 wa = some (.lst (sgV w)) := by wtm_at "lk"
      have es6 : H6 sh = some (.lst [.int (1 + a), .int (1 + b)]) := by wtm_at "lk"
      refine g_test (fun h1 => ?_) (fun h1 => ?_)
      · wtm_at "go"
        refine ⟨p, P6, 26, rfl, e6, by decide, by decide, fun x P7 H7 x0 x1 b7 e7 => ?_⟩
        obtain ⟨z, rfl⟩ := Int.eq_ofNat_of_zero_le x0
        have hz2 : z < LET.length := by show z < 26; omega
        refine g_ixT (by decide) (atI_of (List.getElem?_eq_getElem hz2)) ?_
        wtm_at "go"
        have hmem : LET[z] ∈ LET := List.getElem_mem hz2
        refine ⟨2 * (left - 1) + w.length, by omega, t ++ [LET[z]], w, left - 1, _, _, P7, by rw [show ((left - 1 : Nat) : Int) = (left : Int) - 1 by omega], rfl, by simp; omega, ?_, hw, ?_, by wtm_at "lk", by wtm_at "lk", e7, by wtm_at "sm"⟩
        · intro c hc
          rcases List.mem_append.mp hc with hc | hc
          · exact ht c hc
          · rw [List.mem_singleton] at hc
            subst hc
            exact .inl hmem
        · rw [run_snoc, hrun, stp_let (let_opn _ hmem) (let_clo _ hmem)]
      · wtm_at "go"
        refine g_ifC (b := decide (r ≤ 1 + a) && decide ((1 : Int) < left)) (fun Q q => ?_) (fun h2 => ?_) (fun h2 => ?_)
        · wtm_at "unf"
          wtm_at "go"
          refine g_test (fun h => ?_) (fun h => ?_)
          · wtm_at "go"
            refine ⟨_, rfl, ?_⟩
            rw [decide_eq_true h, Bool.true_and] at q
            exact q
          · rw [decide_eq_false h, Bool.false_and] at q
            exact q
        · have h3 : 1 < left := by simp at h2; omega
          wtm_at "unf"
          wtm_at "go"
          refine ⟨p, P6, 4, rfl, e6, by decide, by decide, fun x P7 H7 x0 x1 b7 e7 => ?_⟩
          obtain ⟨z, rfl⟩ := Int.eq_ofNat_of_zero_le x0
          obtain ⟨c, ec, ed, hco, hdc⟩ := opn_at (z := z) (by omega)
          wtm_at "go"
          refine g_ixT (by decide) (atI_of ec) ?_
          wtm_at "go"
          refine ⟨g_tyL (sq_of (show H7 wa = some (.lst (sgV w)) by wtm_at "lk")), ?_⟩
          wtm_at "go"
          refine g_ixT (by decide) (atI_of ed) ?_
          refine g_append1 (show H7 wa = some (.lst (sgV w)) by wtm_at "lk") (by rw [sgV_len]; omega) fun H8 b8 e8 => ?_
          wtm_at "go"
          rw [← sgV_snoc] at e8
          refine ⟨2 * (left - 2) + (w.length + 1), by omega, t ++ [c], w ++ [oth c], left - 2, _, _, P7, by rw [show ((left - 2 : Nat) : Int) = (left : Int) - 2 by omega] <;> rfl, by simp, by simp; omega, ?_, ?_, ?_, e8, by wtm_at "lk", by wtm_at "lk", by wtm_at "sm"⟩
          · intro d hd
            rcases List.mem_append.mp hd with hd | hd
            · exact ht d hd
            · rw [List.mem_singleton] at hd
              subst hd
              exact .inr (brk_or.mpr (.inl hco))
          · intro d hd
            rcases List.mem_append.mp hd with hd | hd
            · exact hw d hd
            · rw [List.mem_singleton] at hd
              subst hd
              exact hdc
          · rw [run_snoc, hrun, stp_opn hco]
            simp
        · wtm_at "unf"
          wtm_at "go"
          refine g_lst (by show 0 ≤ 100000; decide) fun em H7 nem s7 eem => ?_
          refine g_neNilS (sq_of (Same.get s7 ew6)) (fun c hc => sg_lt (.inr (brk_or.mpr (.inr (hw c hc))))) (sq_of eem) ?_
          refine g_testN (fun h4 => ?_) (fun h4 => ?_)
          · obtain ⟨w', c, rfl⟩ : ∃ w' c, w = w' ++ [c] := ⟨w.dropLast, w.getLast h4, (List.dropLast_concat_getLast h4).symm⟩
            rw [sgV_snoc] at ew6
            wtm_at "go"
            refine g_pop (Same.get s7 ew6) fun H8 b8 e8 => ?_
            wtm_at "go"
            have hc : c ∈ CLO := hw c (by simp)
            simp only [List.length_append, List.length_singleton] at hlen
            refine ⟨2 * left + w'.length, by wtm_at "om", t ++ [c], w', left, _, _, P6, rfl, rfl, by simp; omega, ?_, fun d hd => hw d (by simp [hd]), ?_, e8, by wtm_at "lk", by wtm_at "lk", by wtm_at "sm"⟩
            · intro d hd
              rcases List.mem_append.mp hd with hd | hd
              · exact ht d hd
              · rw [List.mem_singleton] at hd
                subst hd
                exact .inr (brk_or.mpr (.inr hc))
            · rw [run_snoc, hrun, List.reverse_append]
              exact stp_clo hc
          · subst h4
            wtm_at "go"
            exact ⟨2 * (left - 1), by wtm_at "om", t, [], left - 1, _, _, P6, by rw [show ((left - 1 : Nat) : Int) = (left : Int) - 1 by omega], by simp, by simp at hlen ⊢; omega, ht, hw, hrun, by wtm_at "lk", by wtm_at "lk", by wtm_at "lk", by wtm_at "sm"⟩
    · wtm_at "unf"
      wtm_at "go"
      refine g_revL (sq_of ew) fun rv H6 nrv s6 erv => ?_
      rw [sgV_rev] at erv
      refine g_join0 (l := w.reverse) (sq_of erv) (by wtm_at "om") ?_
      wtm_at "go"
      refine q (t ++ w.reverse) P5 H6 ?_ (by wtm_at "om") ?_ (by wtm_at "sm") (by wtm_at "lk")
      · intro d hd
        rcases List.mem_append.mp hd with hd | hd
        · exact ht d hd
        · exact .inr (brk_or.mpr (.inr (hw d (by simpa using hd))))
      · show Ly.run _ = some []
        rw [run_app, hrun]
        exact fold_clo _ fun d hd => hw d (by simpa using hd)
/-! _law_bent -/
/-! _law_text -/
end
end K11

set_option maxHeartbeats 4000000
namespace K11
open PySem PySem.Spec PyProof.Rows L2 SX Ly
local macro_rules | `(tactic| wtm_at "unf") => `(tactic| (try simp only [tMetX, tOwnX, tChain, tSeq, tNext, tBreak, tCont, tDrop, tRet, tRetN, tIfS, tAsg, tAug, tC, tOp, tUn, tNil, tCons, tOwn, tCB, tTest, tB, tAnd, tOr, tNot, tAndV, tOrV, tNotV, tIf, gName, gSub, tBM, tBM0, tM0, tM1, tSl, tPart_eq, tNoPart, tLst_eq, tTup_eq, tRevL_eq, tReplT, tRevS, tDGet_eq, sDPut_eq, tDNewT_eq, tMet, tMak, tFld_eq, sFld_eq, C8.tCut, wipe, tYes, gTup, gCons, gNil, List.set_cons_zero, List.set_cons_succ, if_true, if_false, Bool.false_eq_true, Bool.not_true, Bool.not_false, true_and, reduceIte, cx_K, tFor_eq, tLc_eq, iStr, iList, iTup, iRng1, iRng2, iRng3, iEnum, iZip, tLstRg, tRg1, gLst, RZ.iZipA, iEnumS, iZipS, tDNewK_eq, tDGet2, tDIn, tDNotIn, iKd]))
local macro_rules | `(tactic| wtm_at "unfA") => `(tactic| (try simp only [tMetX, tOwnX, tChain, tSeq, tNext, tBreak, tCont, tDrop, tRet, tRetN, tIfS, tAsg, tAug, tC, tOp, tUn, tNil, tCons, tOwn, tCB, tTest, tB, tAnd, tOr, tNot, tIf, gName, gSub, tBM, tBM0, tM0, tM1, tSl, tPart_eq, tNoPart, tLst_eq, tTup_eq, tRevL_eq, tReplT, tRevS, tDGet_eq, sDPut_eq, tDNewT_eq, tMet, tMak, tFld_eq, sFld_eq, C8.tCut, wipe, tYes, gTup, gCons, gNil, List.set_cons_zero, List.set_cons_succ, if_true, if_false, Bool.false_eq_true, Bool.not_true, Bool.not_false, true_and, reduceIte, cx_K, tFor_eq, tLc_eq, iStr, iList, iTup, iRng1, iRng2, iRng3, iEnum, iZip, tLstRg, tRg1, gLst, RZ.iZipA, iEnumS, iZipS, tDNewK_eq, tDGet2, tDIn, tDNotIn, iKd]))
local macro_rules | `(tactic| wtm_at "ne") => `(tactic| first | assumption | (apply Ne.symm; assumption) | (apply ne_new; (· assumption); (· wtm_at "lk")) | (apply Ne.symm; apply ne_new; (· assumption); (· wtm_at "lk")))
local macro_rules | `(tactic| wtm_at "lk") => `(tactic| first | assumption | exact upd_same | (apply Same.get; (· assumption); (· wtm_at "lk")) | (apply But.get; (· assumption); (· wtm_at "ne"); (· wtm_at "lk")))
local macro_rules | `(tactic| wtm_at "sq") => `(tactic| first | assumption | (apply sq_of; wtm_at "lk") | (apply Same.seq; (· assumption); (· wtm_at "sq")) | (apply But.sq; (· assumption); (· wtm_at "ne"); (· wtm_at "sq")))
local macro_rules | `(tactic| wtm_at "fr") => `(tactic| first | assumption | (apply Same.fr; (· assumption); (· wtm_at "sm")) | (apply But.fr; (· assumption); (· wtm_at "sm"); (· wtm_at "ne")))
local macro_rules | `(tactic| wtm_at "sm") => `(tactic| first | exact Same.refl _ | exact But.refl | assumption | (apply Same.tr; (· assumption); (· wtm_at "sm")) | (apply Same.b0; (· assumption); (· wtm_at "sm"); (· wtm_at "fr")) | (apply But.sa; (· assumption); (· wtm_at "sm")) | (apply But.tr; (· assumption); (· wtm_at "sm")) | (apply But.b0; (· assumption); (· wtm_at "sm"); (· wtm_at "fr")) | (apply Same.toBut; wtm_at "sm"))
local macro_rules | `(tactic| wtm_at "sc") => `(tactic| first | exact Int.zero_lt_one | (show (0 : Int) < _; omega) | (show (0 : Int) < _; decide) | exact ⟨by omega, by omega⟩ | exact .inl ⟨by omega, by omega⟩ | exact .inr ⟨by omega, by omega⟩)
local macro_rules | `(tactic| wtm_at "go1") => `(tactic| first | ((with_reducible apply g_var); (· exact rfl)) | with_reducible apply g_I0 | ((with_reducible apply g_I); (· wtm_at "sc")) | with_reducible apply g_U | with_reducible apply g_ipI | ((with_reducible apply g_addT); (· first | omega | (simp; done) | (simp; omega))) | with_reducible apply g_inT | with_reducible apply g_ninT | ((with_reducible apply g_lenT); (· omega)) | with_reducible apply g_findT1 | with_reducible apply g_str | with_reducible apply g_part | with_reducible apply g_intB | ((with_reducible apply g_ixL); (· wtm_at "sq"); (· exact rfl)) | ((with_reducible apply g_setL); (· wtm_at "lk"); (· exact rfl)) | ((with_reducible apply g_eq); (· rfl)) | ((with_reducible apply g_ne); (· rfl)))
local macro_rules | `(tactic| wtm_at "go") => `(tactic| repeat wtm_at "go1")
local macro_rules | `(tactic| wtm_at "lp") => `(tactic| skip)
local macro_rules | `(tactic| wtm_at "om") => `(tactic| first | omega | (simp; done) | (simp; omega) | (simp at *; omega))
local macro_rules | `(tactic| wtm_at "ty") => `(tactic| first | exact ty_str | exact ty_int | exact ty_bl | exact ty_non | (apply ty_lst; wtm_at "lk") | (apply ty_tup; wtm_at "lk"))
local macro_rules | `(tactic| wtm_at "kb") => `(tactic| first | exact kb_str_str | exact kb_str_int | exact kb_str_bool | exact kb_str_list | exact kb_str_tuple | exact kb_int_str | exact kb_int_int | exact kb_int_bool | exact kb_int_list | exact kb_int_tuple | exact kb_bool_str | exact kb_bool_int | exact kb_bool_bool | exact kb_bool_list | exact kb_bool_tuple | exact kb_list_str | exact kb_list_int | exact kb_list_bool | exact kb_list_list | exact kb_list_tuple | exact kb_tuple_str | exact kb_tuple_int | exact kb_tuple_bool | exact kb_tuple_list | exact kb_tuple_tuple | exact kb_NoneType_str | exact kb_NoneType_int | exact kb_NoneType_bool | exact kb_NoneType_list | exact kb_NoneType_tuple | exact kb_dict_str | exact kb_dict_int | exact kb_dict_bool | exact kb_dict_list | exact kb_dict_tuple)
local macro_rules | `(tactic| wtm_at "gx1") => `(tactic| first | ((with_reducible apply g_eqS); (· exact rfl)) | ((with_reducible apply g_neS); (· exact rfl)) | wtm_at "go1" | with_reducible apply g_min2 | with_reducible apply g_max2 | with_reducible apply g_T | with_reducible apply g_F | with_reducible apply g_NT | with_reducible apply g_NF | with_reducible apply g_nT | with_reducible apply g_nF | with_reducible apply g_RT | with_reducible apply g_RF | ((with_reducible apply g_isi); (· wtm_at "ty"); (· wtm_at "kb")) | ((with_reducible apply g_ixAU3); (· wtm_at "lk"); (· exact rfl)) | ((with_reducible apply g_ixAL3); (· wtm_at "lk"); (· exact rfl)) | ((with_reducible apply g_ixU3); (· wtm_at "lk"); (· exact rfl)) | ((with_reducible apply g_lenL3); (· wtm_at "lk")) | ((with_reducible apply g_lenU3); (· wtm_at "lk")) | ((with_reducible apply g_tyL3); (· wtm_at "lk")) | ((with_reducible apply g_lenT); (· wtm_at "pv")) | wtm_at "tr" | with_reducible apply g_ET | with_reducible apply g_EF | with_reducible apply g_EnT | with_reducible apply g_EnF)
local macro_rules | `(tactic| wtm_at "pv") => `(tactic| first | exact rfl | assumption | omega | (simp; done) | (simp; omega))
local macro_rules | `(tactic| wtm_at "tr") => `(tactic| first | ((with_reducible apply g_Td); (· wtm_at "pv")) | ((with_reducible apply g_Fd); (· wtm_at "pv")) | ((with_reducible apply g_NTd); (· wtm_at "pv")) | ((with_reducible apply g_NFd); (· wtm_at "pv")) | ((with_reducible apply g_nTd); (· wtm_at "pv")) | ((with_reducible apply g_nFd); (· wtm_at "pv")) | ((with_reducible apply g_RTd); (· wtm_at "pv")) | ((with_reducible apply g_RFd); (· wtm_at "pv")))
local macro_rules | `(tactic| wtm_at "gx") => `(tactic| repeat wtm_at "gx1")
local macro_rules | `(tactic| wtm_at "unfS") => `(tactic| (try simp only [tSeq, tNext, tAsg, tFor_eq, C8.tCut, wipe, gName, tDrop, List.set_cons_zero, List.set_cons_succ, cx_K]))
local macro_rules | `(tactic| wtm_at "rd1") => `(tactic| first | exact rd_int | exact rd_str | exact rd_bl | exact rd_non | exact rda_nil | apply rda_cons | (with_reducible apply rd_tup; (· assumption)) | (with_reducible apply rd_lst; (· assumption)) | exact rd_dic (by assumption) | exact rd_var rfl (.int _) | exact rd_var rfl (.str _) | exact rd_var rfl (.bl _) | exact rd_var rfl (by assumption) | (with_reducible apply rd_cat; (· assumption)) | (with_reducible apply rd_rep2; (· assumption)) | (with_reducible apply rd_rev; (· assumption)) | (with_reducible apply rd_to; (· assumption)) | (with_reducible apply rd_from; (· assumption)) | (with_reducible apply rd_tupOf; (· assumption)) | (with_reducible apply rd_lstOf; (· assumption)) | with_reducible apply rd_lenL | with_reducible apply rd_lenT | with_reducible apply rd_I0 | with_reducible apply rd_I | with_reducible apply rd_U | with_reducible apply rd_eqI | with_reducible apply rd_ixL | with_reducible apply rd_ixT | exact atI_hd _ _ | exact ‹atI _ _ = some _›)
local macro_rules | `(tactic| wtm_at "rdl") => `(tactic| first | decide | omega | wtm_at "sc" | (simp only [List.length_append, List.length_cons, List.length_nil, List.length_map, List.length_take, List.length_drop, List.length_reverse, cutTo]; omega))
local macro_rules | `(tactic| wtm_at "rd") => `(tactic| ((repeat' wtm_at "rd1"); (all_goals wtm_at "rdl")))
local macro_rules | `(tactic| wtm_at "nc") => `(tactic| repeat' (first | assumption | exact nca_nil | exact nc_non | exact nc_bl | exact nc_dic | exact nc_tup0 | exact nc_lst0 | (refine nc_strS (by decide) (by decide)) | (refine nc_int (by omega)) | (refine nc_big (by decide +kernel)) | refine nca_app ?_ ?_ | refine nca_cons ?_ ?_ | refine nca_take ?_ | refine nca_drop ?_ | refine nca_cutTo ?_ | refine nca_rev ?_ | refine nc_tup (by decide) ?_ | refine nc_lst (by decide) ?_ | refine nc_lst (Nat.le_trans (show _ ≤ 45 by wtm_at "rdl") (by decide)) ?_ | refine nc_tup (Nat.le_trans (show _ ≤ 45 by wtm_at "rdl") (by decide)) ?_))

section
variable {P : Program} {w : World} {K : PySem.W.Frag} {mg : Str → Option Value} {base : Heap}
theorem atI_last1 {α : Type} (xs : List α) (x : α) : atI (xs ++ [x]) (-1) = some x := L2.atI_last xs x
end
end K11

set_option maxHeartbeats 4000000
namespace K11
open PySem PySem.Spec PyProof.Rows L2 SX Ly
local macro_rules | `(tactic| wtm_at "unf") => `(tactic| (try simp only [tMetX, tOwnX, tChain, tSeq, tNext, tBreak, tCont, tDrop, tRet, tRetN, tIfS, tAsg, tAug, tC, tOp, tUn, tNil, tCons, tOwn, tCB, tTest, tB, tAnd, tOr, tNot, tAndV, tOrV, tNotV, tIf, gName, gSub, tBM, tBM0, tM0, tM1, tSl, tPart_eq, tNoPart, tLst_eq, tTup_eq, tRevL_eq, tReplT, tRevS, tDGet_eq, sDPut_eq, tDNewT_eq, tMet, tMak, tFld_eq, sFld_eq, C8.tCut, wipe, tYes, gTup, gCons, gNil, List.set_cons_zero, List.set_cons_succ, if_true, if_false, Bool.false_eq_true, Bool.not_true, Bool.not_false, true_and, reduceIte, cx_K, tFor_eq, tLc_eq, iStr, iList, iTup, iRng1, iRng2, iRng3, iEnum, iZip, tLstRg, tRg1, gLst, RZ.iZipA, iEnumS, iZipS, tDNewK_eq, tDGet2, tDIn, tDNotIn, iKd]))
local macro_rules | `(tactic| wtm_at "unfA") => `(tactic| (try simp only [tMetX, tOwnX, tChain, tSeq, tNext, tBreak, tCont, tDrop, tRet, tRetN, tIfS, tAsg, tAug, tC, tOp, tUn, tNil, tCons, tOwn, tCB, tTest, tB, tAnd, tOr, tNot, tIf, gName, gSub, tBM, tBM0, tM0, tM1, tSl, tPart_eq, tNoPart, tLst_eq, tTup_eq, tRevL_eq, tReplT, tRevS, tDGet_eq, sDPut_eq, tDNewT_eq, tMet, tMak, tFld_eq, sFld_eq, C8.tCut, wipe, tYes, gTup, gCons, gNil, List.set_cons_zero, List.set_cons_succ, if_true, if_false, Bool.false_eq_true, Bool.not_true, Bool.not_false, true_and, reduceIte, cx_K, tFor_eq, tLc_eq, iStr, iList, iTup, iRng1, iRng2, iRng3, iEnum, iZip, tLstRg, tRg1, gLst, RZ.iZipA, iEnumS, iZipS, tDNewK_eq, tDGet2, tDIn, tDNotIn, iKd]))
local macro_rules | `(tactic| wtm_at "ne") => `(tactic| first | assumption | (apply Ne.symm; assumption) | (apply ne_new; (· assumption); (· wtm_at "lk")) | (apply Ne.symm; apply ne_new; (· assumption); (· wtm_at "lk")))
local macro_rules | `(tactic| wtm_at "lk") => `(tactic| first | assumption | exact upd_same | (apply Same.get; (· assumption); (· wtm_at "lk")) | (apply But.get; (· assumption); (· wtm_at "ne"); (· wtm_at "lk")))
local macro_rules | `(tactic| wtm_at "sq") => `(tactic| first | assumption | (apply sq_of; wtm_at "lk") | (apply Same.seq; (· assumption); (· wtm_at "sq")) | (apply But.sq; (· assumption); (· wtm_at "ne"); (· wtm_at "sq")))
local macro_rules | `(tactic| wtm_at "fr") => `(tactic| first | assumption | (apply Same.fr; (· assumption); (· wtm_at "sm")) | (apply But.fr; (· assumption); (· wtm_at "sm"); (· wtm_at "ne")))
local macro_rules | `(tactic| wtm_at "sm") => `(tactic| first | exact Same.refl _ | exact But.refl | assumption | (apply Same.tr; (· assumption); (· wtm_at "sm")) | (apply Same.b0; (· assumption); (· wtm_at "sm"); (· wtm_at "fr")) | (apply But.sa; (· assumption); (· wtm_at "sm")) | (apply But.tr; (· assumption); (· wtm_at "sm")) | (apply But.b0; (· assumption); (· wtm_at "sm"); (· wtm_at "fr")) | (apply Same.toBut; wtm_at "sm"))
local macro_rules | `(tactic| wtm_at "sc") => `(tactic| first | exact Int.zero_lt_one | (show (0 : Int) < _; omega) | (show (0 : Int) < _; decide) | exact ⟨by omega, by omega⟩ | exact .inl ⟨by omega, by omega⟩ | exact .inr ⟨by omega, by omega⟩)
local macro_rules | `(tactic| wtm_at "go1") => `(tactic| first | ((with_reducible apply g_var); (· exact rfl)) | with_reducible apply g_I0 | ((with_reducible apply g_I); (· wtm_at "sc")) | with_reducible apply g_U | with_reducible apply g_ipI | ((with_reducible apply g_addT); (· first | omega | (simp; done) | (simp; omega))) | with_reducible apply g_inT | with_reducible apply g_ninT | ((with_reducible apply g_lenT); (· omega)) | with_reducible apply g_findT1 | with_reducible apply g_str | with_reducible apply g_part | with_reducible apply g_intB | ((with_reducible apply g_ixL); (· wtm_at "sq"); (· exact rfl)) | ((with_reducible apply g_setL); (· wtm_at "lk"); (· exact rfl)) | ((with_reducible apply g_eq); (· rfl)) | ((with_reducible apply g_ne); (· rfl)))
local macro_rules | `(tactic| wtm_at "go") => `(tactic| repeat wtm_at "go1")
local macro_rules | `(tactic| wtm_at "lp") => `(tactic| skip)
local macro_rules | `(tactic| wtm_at "om") => `(tactic| first | omega | (simp; done) | (simp; omega) | (simp at *; omega))
local macro_rules | `(tactic| wtm_at "ty") => `(tactic| first | exact ty_str | exact ty_int | exact ty_bl | exact ty_non | (apply ty_lst; wtm_at "lk") | (apply ty_tup; wtm_at "lk"))
local macro_rules | `(tactic| wtm_at "kb") => `(tactic| first | exact kb_str_str | exact kb_str_int | exact kb_str_bool | exact kb_str_list | exact kb_str_tuple | exact kb_int_str | exact kb_int_int | exact kb_int_bool | exact kb_int_list | exact kb_int_tuple | exact kb_bool_str | exact kb_bool_int | exact kb_bool_bool | exact kb_bool_list | exact kb_bool_tuple | exact kb_list_str | exact kb_list_int | exact kb_list_bool | exact kb_list_list | exact kb_list_tuple | exact kb_tuple_str | exact kb_tuple_int | exact kb_tuple_bool | exact kb_tuple_list | exact kb_tuple_tuple | exact kb_NoneType_str | exact kb_NoneType_int | exact kb_NoneType_bool | exact kb_NoneType_list | exact kb_NoneType_tuple | exact kb_dict_str | exact kb_dict_int | exact kb_dict_bool | exact kb_dict_list | exact kb_dict_tuple)
local macro_rules | `(tactic| wtm_at "gx1") => `(tactic| first | ((with_reducible apply g_eqS); (· exact rfl)) | ((with_reducible apply g_neS); (· exact rfl)) | wtm_at "go1" | with_reducible apply g_min2 | with_reducible apply g_max2 | with_reducible apply g_T | with_reducible apply g_F | with_reducible apply g_NT | with_reducible apply g_NF | with_reducible apply g_nT | with_reducible apply g_nF | with_reducible apply g_RT | with_reducible apply g_RF | ((with_reducible apply g_isi); (· wtm_at "ty"); (· wtm_at "kb")) | ((with_reducible apply g_ixAU3); (· wtm_at "lk"); (· exact rfl)) | ((with_reducible apply g_ixAL3); (· wtm_at "lk"); (· exact rfl)) | ((with_reducible apply g_ixU3); (· wtm_at "lk"); (· exact rfl)) | ((with_reducible apply g_lenL3); (· wtm_at "lk")) | ((with_reducible apply g_lenU3); (· wtm_at "lk")) | ((with_reducible apply g_tyL3); (· wtm_at "lk")) | ((with_reducible apply g_lenT); (· wtm_at "pv")) | wtm_at "tr" | with_reducible apply g_ET | with_reducible apply g_EF | with_reducible apply g_EnT | with_reducible apply g_EnF)
local macro_rules | `(tactic| wtm_at "pv") => `(tactic| first | exact rfl | assumption | omega | (simp; done) | (simp; omega))
local macro_rules | `(tactic| wtm_at "tr") => `(tactic| first | ((with_reducible apply g_Td); (· wtm_at "pv")) | ((with_reducible apply g_Fd); (· wtm_at "pv")) | ((with_reducible apply g_NTd); (· wtm_at "pv")) | ((with_reducible apply g_NFd); (· wtm_at "pv")) | ((with_reducible apply g_nTd); (· wtm_at "pv")) | ((with_reducible apply g_nFd); (· wtm_at "pv")) | ((with_reducible apply g_RTd); (· wtm_at "pv")) | ((with_reducible apply g_RFd); (· wtm_at "pv")))
local macro_rules | `(tactic| wtm_at "gx") => `(tactic| repeat wtm_at "gx1")
local macro_rules | `(tactic| wtm_at "unfS") => `(tactic| (try simp only [tSeq, tNext, tAsg, tFor_eq, C8.tCut, wipe, gName, tDrop, List.set_cons_zero, List.set_cons_succ, cx_K]))
local macro_rules | `(tactic| wtm_at "rd1") => `(tactic| first | exact rd_int | exact rd_str | exact rd_bl | exact rd_non | exact rda_nil | apply rda_cons | (with_reducible apply rd_tup; (· assumption)) | (with_reducible apply rd_lst; (· assumption)) | exact rd_dic (by assumption) | exact rd_var rfl (.int _) | exact rd_var rfl (.str _) | exact rd_var rfl (.bl _) | exact rd_var rfl (by assumption) | (with_reducible apply rd_cat; (· assumption)) | (with_reducible apply rd_rep2; (· assumption)) | (with_reducible apply rd_rev; (· assumption)) | (with_reducible apply rd_to; (· assumption)) | (with_reducible apply rd_from; (· assumption)) | (with_reducible apply rd_tupOf; (· assumption)) | (with_reducible apply rd_lstOf; (· assumption)) | with_reducible apply rd_lenL | with_reducible apply rd_lenT | with_reducible apply rd_I0 | with_reducible apply rd_I | with_reducible apply rd_U | with_reducible apply rd_eqI | with_reducible apply rd_ixL | with_reducible apply rd_ixT | exact atI_hd _ _ | exact ‹atI _ _ = some _›)
local macro_rules | `(tactic| wtm_at "rdl") => `(tactic| first | decide | omega | wtm_at "sc" | (simp only [List.length_append, List.length_cons, List.length_nil, List.length_map, List.length_take, List.length_drop, List.length_reverse, cutTo]; omega))
local macro_rules | `(tactic| wtm_at "rd") => `(tactic| ((repeat' wtm_at "rd1"); (all_goals wtm_at "rdl")))
local macro_rules | `(tactic| wtm_at "nc") => `(tactic| repeat' (first | assumption | exact nca_nil | exact nc_non | exact nc_bl | exact nc_dic | exact nc_tup0 | exact nc_lst0 | (refine nc_strS (by decide) (by decide)) | (refine nc_int (by omega)) | (refine nc_big (by decide +kernel)) | refine nca_app ?_ ?_ | refine nca_cons ?_ ?_ | refine nca_take ?_ | refine nca_drop ?_ | refine nca_cutTo ?_ | refine nca_rev ?_ | refine nc_tup (by decide) ?_ | refine nc_lst (by decide) ?_ | refine nc_lst (Nat.le_trans (show _ ≤ 45 by wtm_at "rdl") (by decide)) ?_ | refine nc_tup (Nat.le_trans (show _ ≤ 45 by wtm_at "rdl") (by decide)) ?_))

section
variable {P : Program} {w : World} {K : PySem.W.Frag} {mg : Str → Option Value} {base : Heap}
/-- data without truths and dicts -/
inductive Dt where
  | non
  | int (i : Int)
  | str (l : List Nat)
  | lst (ds : List Dt)
  | tup (ds : List Dt)
mutual
inductive HasD (K : PySem.W.Frag) (H : Hp) : V → Dt → Prop
  | non : HasD K H .non .non
  | int (i : Int) : HasD K H (.int i) (.int i)
  | str (l : List Nat) : HasD K H (Tx l) (.str l)
  | lst {a : Addr} {xs : List V} {ds : List Dt} : H a = some (.lst xs) → HasDs K H xs ds → ds.length ≤ 100000 → HasD K H (.ref a) (.lst ds)
  | tup {a : Addr} {xs : List V} {ds : List Dt} : H a = some (.tup xs) → HasDs K H xs ds → ds.length ≤ 100000 → HasD K H (.ref a) (.tup ds)
inductive HasDs (K : PySem.W.Frag) (H : Hp) : List V → List Dt → Prop
  | nil : HasDs K H [] []
  | cons {v : V} {vs : List V} {d : Dt} {ds : List Dt} : HasD K H v d → HasDs K H vs ds → HasDs K H (v :: vs) (d :: ds)
end
mutual
def Dt.deep : Dt → Nat
  | .non => 0
  | .int _ => 0
  | .str _ => 0
  | .lst ds => Dt.deeps ds + 1
  | .tup ds => Dt.deeps ds + 1
def Dt.deeps : List Dt → Nat
  | [] => 0
  | d :: ds => max (Dt.deep d) (Dt.deeps ds)
end
theorem HasDs.len {K : PySem.W.Frag} {H : Hp} : ∀ {xs : List V} {ds : List Dt}, HasDs K H xs ds → xs.length = ds.length
  | _, _, .nil => rfl
  | _, _, .cons _ h => by simp [HasDs.len h]
theorem HasDs.at_ {K : PySem.W.Frag} {H : Hp} : ∀ {xs : List V} {ds : List Dt} {i : Nat}, HasDs K H xs ds → i < ds.length → ∃ v d, xs[i]? = some v ∧ ds[i]? = some d ∧ HasD K H v d
  | _, _, 0, .cons h _, _ => ⟨_, _, rfl, rfl, h⟩
  | _, _, i + 1, .cons _ h, hi => by
    obtain ⟨v, d, a, b, c⟩ := HasDs.at_ (i := i) h (by simpa using hi)
    exact ⟨v, d, by simpa using a, by simpa using b, c⟩
theorem deeps_le : ∀ {ds : List Dt} {d : Dt} {i : Nat}, ds[i]? = some d → d.deep ≤ Dt.deeps ds
  | [], _, _, h => by cases h
  | e :: ds, d, 0, h => by
    have : e = d := Option.some.inj h
    subst this
    show e.deep ≤ max e.deep _
    exact Nat.le_max_left _ _
  | e :: ds, d, i + 1, h => by
    have h' : ds[i]? = some d := h
    show d.deep ≤ max e.deep (Dt.deeps ds)
    exact Nat.le_trans (deeps_le h') (Nat.le_max_right _ _)
mutual
theorem HasD.same {K : PySem.W.Frag} {H H' : Hp} (s : Same H H') : ∀ {v : V} {d : Dt}, HasD K H v d → HasD K H' v d
  | _, _, .non => .non
  | _, _, .int i => .int i
  | _, _, .str l => .str l
  | _, _, .lst h hs l => .lst (s _ _ h) (HasDs.same s hs) l
  | _, _, .tup h hs l => .tup (s _ _ h) (HasDs.same s hs) l
theorem HasDs.same {K : PySem.W.Frag} {H H' : Hp} (s : Same H H') : ∀ {vs : List V} {ds : List Dt}, HasDs K H vs ds → HasDs K H' vs ds
  | _, _, .nil => .nil
  | _, _, .cons h hs => .cons (HasD.same s h) (HasDs.same s hs)
end
section
variable {K : PySem.W.Frag} {H : Hp} {Q : VK} {p : Addr} {xs : List V} {v : V} {i : Int}
theorem g_ixAL (h : H p = some (.lst xs)) (h1 : atI xs i = some v) (q : Q v H) : rIx K (.ref p) (.int i) H Q := .inl (g_ixL (sq_of h) h1 q)
theorem g_ixAU (h : H p = some (.tup xs)) (h1 : atI xs i = some v) (q : Q v H) : rIx K (.ref p) (.int i) H Q := .inr (.inl (g_ixU (st_of h) h1 q))
end
end
end K11

set_option maxHeartbeats 4000000
namespace K11
open PySem PySem.Spec PyProof.Rows L2 SX Ly
local macro_rules | `(tactic| wtm_at "unf") => `(tactic| (try simp only [tMetX, tOwnX, tChain, tSeq, tNext, tBreak, tCont, tDrop, tRet, tRetN, tIfS, tAsg, tAug, tC, tOp, tUn, tNil, tCons, tOwn, tCB, tTest, tB, tAnd, tOr, tNot, tAndV, tOrV, tNotV, tIf, gName, gSub, tBM, tBM0, tM0, tM1, tSl, tPart_eq, tNoPart, tLst_eq, tTup_eq, tRevL_eq, tReplT, tRevS, tDGet_eq, sDPut_eq, tDNewT_eq, tMet, tMak, tFld_eq, sFld_eq, C8.tCut, wipe, tYes, gTup, gCons, gNil, List.set_cons_zero, List.set_cons_succ, if_true, if_false, Bool.false_eq_true, Bool.not_true, Bool.not_false, true_and, reduceIte, cx_K, tFor_eq, tLc_eq, iStr, iList, iTup, iRng1, iRng2, iRng3, iEnum, iZip, tLstRg, tRg1, gLst, RZ.iZipA, iEnumS, iZipS, tDNewK_eq, tDGet2, tDIn, tDNotIn, iKd]))
local macro_rules | `(tactic| wtm_at "unfA") => `(tactic| (try simp only [tMetX, tOwnX, tChain, tSeq, tNext, tBreak, tCont, tDrop, tRet, tRetN, tIfS, tAsg, tAug, tC, tOp, tUn, tNil, tCons, tOwn, tCB, tTest, tB, tAnd, tOr, tNot, tIf, gName, gSub, tBM, tBM0, tM0, tM1, tSl, tPart_eq, tNoPart, tLst_eq, tTup_eq, tRevL_eq, tReplT, tRevS, tDGet_eq, sDPut_eq, tDNewT_eq, tMet, tMak, tFld_eq, sFld_eq, C8.tCut, wipe, tYes, gTup, gCons, gNil, List.set_cons_zero, List.set_cons_succ, if_true, if_false, Bool.false_eq_true, Bool.not_true, Bool.not_false, true_and, reduceIte, cx_K, tFor_eq, tLc_eq, iStr, iList, iTup, iRng1, iRng2, iRng3, iEnum, iZip, tLstRg, tRg1, gLst, RZ.iZipA, iEnumS, iZipS, tDNewK_eq, tDGet2, tDIn, tDNotIn, iKd]))
local macro_rules | `(tactic| wtm_at "ne") => `(tactic| first | assumption | (apply Ne.symm; assumption) | (apply ne_new; (· assumption); (· wtm_at "lk")) | (apply Ne.symm; apply ne_new; (· assumption); (· wtm_at "lk")))
local macro_rules | `(tactic| wtm_at "lk") => `(tactic| first | assumption | exact upd_same | (apply Same.get; (· assumption); (· wtm_at "lk")) | (apply But.get; (· assumption); (· wtm_at "ne"); (· wtm_at "lk")))
local macro_rules | `(tactic| wtm_at "sq") => `(tactic| first | assumption | (apply sq_of; wtm_at "lk") | (apply Same.seq; (· assumption); (· wtm_at "sq")) | (apply But.sq; (· assumption); (· wtm_at "ne"); (· wtm_at "sq")))
local macro_rules | `(tactic| wtm_at "fr") => `(tactic| first | assumption | (apply Same.fr; (· assumption); (· wtm_at "sm")) | (apply But.fr; (· assumption); (· wtm_at "sm"); (· wtm_at "ne")))
local macro_rules | `(tactic| wtm_at "sm") => `(tactic| first | exact Same.refl _ | exact But.refl | assumption | (apply Same.tr; (· assumption); (· wtm_at "sm")) | (apply Same.b0; (· assumption); (· wtm_at "sm"); (· wtm_at "fr")) | (apply But.sa; (· assumption); (· wtm_at "sm")) | (apply But.tr; (· assumption); (· wtm_at "sm")) | (apply But.b0; (· assumption); (· wtm_at "sm"); (· wtm_at "fr")) | (apply Same.toBut; wtm_at "sm"))
local macro_rules | `(tactic| wtm_at "sc") => `(tactic| first | exact Int.zero_lt_one | (show (0 : Int) < _; omega) | (show (0 : Int) < _; decide) | exact ⟨by omega, by omega⟩ | exact .inl ⟨by omega, by omega⟩ | exact .inr ⟨by omega, by omega⟩)
local macro_rules | `(tactic| wtm_at "go1") => `(tactic| first | ((with_reducible apply g_var); (· exact rfl)) | with_reducible apply g_I0 | ((with_reducible apply g_I); (· wtm_at "sc")) | with_reducible apply g_U | with_reducible apply g_ipI | ((with_reducible apply g_addT); (· first | omega | (simp; done) | (simp; omega))) | with_reducible apply g_inT | with_reducible apply g_ninT | ((with_reducible apply g_lenT); (· omega)) | with_reducible apply g_findT1 | with_reducible apply g_str | with_reducible apply g_part | with_reducible apply g_intB | ((with_reducible apply g_ixL); (· wtm_at "sq"); (· exact rfl)) | ((with_reducible apply g_setL); (· wtm_at "lk"); (· exact rfl)) | ((with_reducible apply g_eq); (· rfl)) | ((with_reducible apply g_ne); (· rfl)))
local macro_rules | `(tactic| wtm_at "go") => `(tactic| repeat wtm_at "go1")
local macro_rules | `(tactic| wtm_at "lp") => `(tactic| skip)
local macro_rules | `(tactic| wtm_at "om") => `(tactic| first | omega | (simp; done) | (simp; omega) | (simp at *; omega))
local macro_rules | `(tactic| wtm_at "ty") => `(tactic| first | exact ty_str | exact ty_int | exact ty_bl | exact ty_non | (apply ty_lst; wtm_at "lk") | (apply ty_tup; wtm_at "lk"))
local macro_rules | `(tactic| wtm_at "kb") => `(tactic| first | exact kb_str_str | exact kb_str_int | exact kb_str_bool | exact kb_str_list | exact kb_str_tuple | exact kb_int_str | exact kb_int_int | exact kb_int_bool | exact kb_int_list | exact kb_int_tuple | exact kb_bool_str | exact kb_bool_int | exact kb_bool_bool | exact kb_bool_list | exact kb_bool_tuple | exact kb_list_str | exact kb_list_int | exact kb_list_bool | exact kb_list_list | exact kb_list_tuple | exact kb_tuple_str | exact kb_tuple_int | exact kb_tuple_bool | exact kb_tuple_list | exact kb_tuple_tuple | exact kb_NoneType_str | exact kb_NoneType_int | exact kb_NoneType_bool | exact kb_NoneType_list | exact kb_NoneType_tuple | exact kb_dict_str | exact kb_dict_int | exact kb_dict_bool | exact kb_dict_list | exact kb_dict_tuple)
local macro_rules | `(tactic| wtm_at "gx1") => `(tactic| first | ((with_reducible apply g_eqS); (· exact rfl)) | ((with_reducible apply g_neS); (· exact rfl)) | wtm_at "go1" | with_reducible apply g_min2 | with_reducible apply g_max2 | with_reducible apply g_T | with_reducible apply g_F | with_reducible apply g_NT | with_reducible apply g_NF | with_reducible apply g_nT | with_reducible apply g_nF | with_reducible apply g_RT | with_reducible apply g_RF | ((with_reducible apply g_isi); (· wtm_at "ty"); (· wtm_at "kb")) | ((with_reducible apply g_ixAU3); (· wtm_at "lk"); (· exact rfl)) | ((with_reducible apply g_ixAL3); (· wtm_at "lk"); (· exact rfl)) | ((with_reducible apply g_ixU3); (· wtm_at "lk"); (· exact rfl)) | ((with_reducible apply g_lenL3); (· wtm_at "lk")) | ((with_reducible apply g_lenU3); (· wtm_at "lk")) | ((with_reducible apply g_tyL3); (· wtm_at "lk")) | ((with_reducible apply g_lenT); (· wtm_at "pv")) | wtm_at "tr" | with_reducible apply g_ET | with_reducible apply g_EF | with_reducible apply g_EnT | with_reducible apply g_EnF)
local macro_rules | `(tactic| wtm_at "pv") => `(tactic| first | exact rfl | assumption | omega | (simp; done) | (simp; omega))
local macro_rules | `(tactic| wtm_at "tr") => `(tactic| first | ((with_reducible apply g_Td); (· wtm_at "pv")) | ((with_reducible apply g_Fd); (· wtm_at "pv")) | ((with_reducible apply g_NTd); (· wtm_at "pv")) | ((with_reducible apply g_NFd); (· wtm_at "pv")) | ((with_reducible apply g_nTd); (· wtm_at "pv")) | ((with_reducible apply g_nFd); (· wtm_at "pv")) | ((with_reducible apply g_RTd); (· wtm_at "pv")) | ((with_reducible apply g_RFd); (· wtm_at "pv")))
local macro_rules | `(tactic| wtm_at "gx") => `(tactic| repeat wtm_at "gx1")
local macro_rules | `(tactic| wtm_at "unfS") => `(tactic| (try simp only [tSeq, tNext, tAsg, tFor_eq, C8.tCut, wipe, gName, tDrop, List.set_cons_zero, List.set_cons_succ, cx_K]))
local macro_rules | `(tactic| wtm_at "rd1") => `(tactic| first | exact rd_int | exact rd_str | exact rd_bl | exact rd_non | exact rda_nil | apply rda_cons | (with_reducible apply rd_tup; (· assumption)) | (with_reducible apply rd_lst; (· assumption)) | exact rd_dic (by assumption) | exact rd_var rfl (.int _) | exact rd_var rfl (.str _) | exact rd_var rfl (.bl _) | exact rd_var rfl (by assumption) | (with_reducible apply rd_cat; (· assumption)) | (with_reducible apply rd_rep2; (· assumption)) | (with_reducible apply rd_rev; (· assumption)) | (with_reducible apply rd_to; (· assumption)) | (with_reducible apply rd_from; (· assumption)) | (with_reducible apply rd_tupOf; (· assumption)) | (with_reducible apply rd_lstOf; (· assumption)) | with_reducible apply rd_lenL | with_reducible apply rd_lenT | with_reducible apply rd_I0 | with_reducible apply rd_I | with_reducible apply rd_U | with_reducible apply rd_eqI | with_reducible apply rd_ixL | with_reducible apply rd_ixT | exact atI_hd _ _ | exact ‹atI _ _ = some _›)
local macro_rules | `(tactic| wtm_at "rdl") => `(tactic| first | decide | omega | wtm_at "sc" | (simp only [List.length_append, List.length_cons, List.length_nil, List.length_map, List.length_take, List.length_drop, List.length_reverse, cutTo]; omega))
local macro_rules | `(tactic| wtm_at "rd") => `(tactic| ((repeat' wtm_at "rd1"); (all_goals wtm_at "rdl")))
local macro_rules | `(tactic| wtm_at "nc") => `(tactic| repeat' (first | assumption | exact nca_nil | exact nc_non | exact nc_bl | exact nc_dic | exact nc_tup0 | exact nc_lst0 | (refine nc_strS (by decide) (by decide)) | (refine nc_int (by omega)) | (refine nc_big (by decide +kernel)) | refine nca_app ?_ ?_ | refine nca_cons ?_ ?_ | refine nca_take ?_ | refine nca_drop ?_ | refine nca_cutTo ?_ | refine nca_rev ?_ | refine nc_tup (by decide) ?_ | refine nc_lst (by decide) ?_ | refine nc_lst (Nat.le_trans (show _ ≤ 45 by wtm_at "rdl") (by decide)) ?_ | refine nc_tup (Nat.le_trans (show _ ≤ 45 by wtm_at "rdl") (by decide)) ?_))

section
variable {P : Program} {w : World} {K : PySem.W.Frag} {mg : Str → Option Value} {base : Heap}
/-! _law_same -/
def sp_law_same (K : PySem.W.Frag) : Nat → Sp
  | 0 => fun _ _ _ _ => False
  | n + 1 => fun vs H Q _ => ∃ (v w : V) (d : Dt), vs = [v, w] ∧ HasD K H v d ∧ HasD K H w d ∧ d.deep ≤ n ∧ ∀ H', Same H H' → Q (.bl true) H'
theorem ok_law_same (T : Facts K mg) (n : Nat) : C8.Cal P w K mg base (n + 1) "_law_same" (sp_law_same K n) [] := by
  induction n with
  | zero => exact cal_false T.f_law_same sc_law_same (fun _ _ _ _ h => h)
  | succ n ih =>
  rw [show n + 1 + 1 = (n + 1) + 1 by omega]
  refine calD T.f_law_same sc_law_same (fun vs H Q E h => ?_) (fun f cdv A outer s H vs Q E hr h => ?_)
  · obtain ⟨v, w, d, rfl, hv, hw, hd, q⟩ := h; rfl
  · obtain ⟨v, w, d, rfl, hv, hw, hd, q⟩ := h
    refine ⟨_, (pss_cons (ps_if (pt_cmpR op_isN (pv 1) pe_non (nomark _))
       (pss_one (ps_ret (pe_cmpR op_isN (pv 0) pe_non (nomark _))))
       pss_nil)
       (pss_cons (ps_if (pt_val (pe_callB call_isi rfl T.b_isinstance (by decide +kernel) (pa_cons (pv 1) (pa_cons (pe_bltn (v := .ty "str") rfl T.b_str (by decide +kernel) rfl) pa_nil))))
       (pss_one (ps_ret (pe_and (pe_callB call_isi rfl T.b_isinstance (by decide +kernel) (pa_cons (pv 0) (pa_cons (pe_bltn (v := .ty "str") rfl T.b_str (by decide +kernel) rfl) pa_nil))) (pe_one (pe_cmpR op_eq (pv 0) (pv 1) (nomark _))))))
       pss_nil)
       (pss_cons (ps_if (pt_val (pe_callB call_isi rfl T.b_isinstance (by decide +kernel) (pa_cons (pv 1) (pa_cons (pe_bltn (v := .ty "int") rfl T.b_int (by decide +kernel) rfl) pa_nil))))
       (pss_one (ps_ret (pe_and (pe_callB call_isi rfl T.b_isinstance (by decide +kernel) (pa_cons (pv 0) (pa_cons (pe_bltn (v := .ty "int") rfl T.b_int (by decide +kernel) rfl) pa_nil))) (pe_and (pe_not (pe_callB call_isi rfl T.b_isinstance (by decide +kernel) (pa_cons (pv 0) (pa_cons (pe_bltn (v := .ty "bool") rfl T.b_bool (by decide +kernel) rfl) pa_nil)))) (pe_one (pe_cmpR op_eq (pv 0) (pv 1) (nomark _)))))))
       pss_nil)
       (C8.pss_cut (ps_if (pt_val (pe_callB call_isi rfl T.b_isinstance (by decide +kernel) (pa_cons (pv 1) (pa_cons (pe_bltn (v := .ty "tuple") rfl T.b_tuple (by decide +kernel) rfl) pa_nil))))
       (pss_one (ps_if (pt_not (pt_val (pe_callB call_isi rfl T.b_isinstance (by decide +kernel) (pa_cons (pv 0) (pa_cons (pe_bltn (v := .ty "tuple") rfl T.b_tuple (by decide +kernel) rfl) pa_nil)))))
       (pss_one (ps_ret pe_bl))
       pss_nil))
       (pss_one (ps_if (pt_not (pt_val (pe_callB call_isi rfl T.b_isinstance (by decide +kernel) (pa_cons (pv 0) (pa_cons (pe_bltn (v := .ty "list") rfl T.b_list (by decide +kernel) rfl) pa_nil)))))
       (pss_one (ps_ret pe_bl))
       pss_nil)))
       (pss_cons (ps_if (pt_cmpR op_ne (pe_callB call_lenL rfl T.b_len PySem.boot_len (pa_cons (pv 0) pa_nil)) (pe_callB call_lenL rfl T.b_len PySem.boot_len (pa_cons (pv 1) pa_nil)) (nomark _))
       (pss_one (ps_ret pe_bl))
       pss_nil)
       (pss_cons (ps_for PassesOwn.never rfl (pi_range1 rfl T.b_range (pa_cons (pe_callB call_lenL rfl T.b_len PySem.boot_len (pa_cons (pv 1) pa_nil)) pa_nil)) (pg_name (i := 2) sc_law_same.nd rfl (Or.inl rfl))
       (pss_one (ps_if (pt_not (pt_val (pe_own ih hr (Nat.le_refl _) rfl (pa_cons (pe_ix ix_seq (pv 0) (pv 2) (fun _ _ => rfl)) (pa_cons (pe_ix ix_seq (pv 1) (pv 2) (fun _ _ => rfl)) pa_nil)))))
       (pss_one (ps_ret pe_bl))
       pss_nil)))
       (pss_one (ps_ret pe_bl)))))))), ?_⟩
    rw [st_law_same]
    wtm_at "unf"
    wtm_at "go"
    cases hw with
    | non =>
      cases hv
      exact g_testB (b := decide (V.non = V.non)) (fun _ => by wtm_at "go"; exact q _ (Same.refl _)) (fun h => by simp at h)
    | int i =>
      cases hv
      refine g_testB (b := decide (V.int i = V.non)) (fun h => by simp at h) (fun _ => ?_)
      wtm_at "go"
      refine g_isi (b := false) ty_int (by decide +kernel) ?_
      refine ⟨_, rfl, ?_⟩
      rw [if_neg Bool.false_ne_true]
      wtm_at "go"
      refine g_isi (b := true) ty_int (by decide +kernel) ?_
      refine ⟨_, rfl, ?_⟩
      rw [if_pos rfl]
      wtm_at "go"
      refine g_isi (b := true) ty_int (by decide +kernel) ?_
      refine ⟨_, rfl, ?_⟩
      rw [if_pos rfl]
      wtm_at "go"
      refine g_isi (b := false) ty_int (by decide +kernel) ?_
      refine ⟨_, rfl, _, rfl, ?_⟩
      rw [Bool.not_false, if_pos rfl]
      wtm_at "go"
      rw [decide_eq_true rfl]
      exact q _ (Same.refl _)
    | str l =>
      cases hv
      refine g_testB (b := decide (Tx l = V.non)) (fun h => by simp at h) (fun _ => ?_)
      wtm_at "go"
      refine g_isi (b := true) ty_str (by decide +kernel) ?_
      refine ⟨_, rfl, ?_⟩
      rw [if_pos rfl]
      wtm_at "go"
      refine g_isi (b := true) ty_str (by decide +kernel) ?_
      refine ⟨_, rfl, ?_⟩
      rw [if_pos rfl]
      wtm_at "go"
      rw [decide_eq_true rfl]
      exact q _ (Same.refl _)
    | @lst b ys ds hb hys hbig =>
      cases hv with
      | @lst a xs _ ha hxs _ =>
      refine g_testB (b := decide (V.ref b = V.non)) (fun h => by simp at h) (fun _ => ?_)
      wtm_at "go"
      refine g_isi (b := false) (ty_lst hb) (by decide +kernel) ?_
      refine ⟨_, rfl, ?_⟩
      rw [if_neg Bool.false_ne_true]
      wtm_at "go"
      refine g_isi (b := false) (ty_lst hb) (by decide +kernel) ?_
      refine ⟨_, rfl, ?_⟩
      rw [if_neg Bool.false_ne_true]
      refine ⟨fun σ' H' => σ' = [some (V.ref a), some (V.ref b), none] ∧ H' = H, ?_, ?_⟩
      · wtm_at "go"
        refine g_isi (b := false) (ty_lst hb) (by decide +kernel) ?_
        refine ⟨_, rfl, ?_⟩
        rw [if_neg Bool.false_ne_true]
        wtm_at "go"
        refine g_isi (b := true) (ty_lst ha) (by decide +kernel) ?_
        refine ⟨_, rfl, ?_⟩
        exact ⟨rfl, rfl⟩
      · rintro σ' Hq ⟨rfl, hHH⟩
        rw [hHH]
        have hdd : Dt.deeps ds + 1 ≤ n := hd
        wtm_at "go"
        refine g_lenL (sq_of ha) ?_
        wtm_at "go"
        refine g_lenL (sq_of hb) ?_
        refine ⟨rfl, ?_⟩
        rw [HasDs.len hxs, HasDs.len hys, decide_eq_true rfl]
        refine ⟨_, rfl, ?_⟩
        rw [Bool.not_true, if_neg Bool.false_ne_true]
        wtm_at "go"
        refine g_lenL (sq_of hb) ?_
        rw [HasDs.len hys]
        refine ⟨_, rfl, by omega, by omega, for_rng (fun i σ H' => ∃ y, σ = [some (V.ref a), some (V.ref b), y] ∧ Same H H') ⟨_, rfl, Same.refl _⟩ (fun i σ H' hi hv => ?_) (fun σ H' hv => ?_)⟩
        · obtain ⟨y, rfl, sH⟩ := hv
          rw [Int.toNat_natCast] at hi
          obtain ⟨v, d, hv1, hd1, hvd⟩ := HasDs.at_ hxs hi
          obtain ⟨w, d', hw1, hd1', hwd⟩ := HasDs.at_ hys hi
          have : d = d' := by rw [hd1] at hd1'; exact Option.some.inj hd1'
          subst this
          rw [Int.zero_add]
          wtm_at "unf"
          wtm_at "go"
          refine g_ixAL (Same.get sH ha) (atI_of hv1) ?_
          wtm_at "go"
          refine g_ixAL (Same.get sH hb) (atI_of hw1) ?_
          cases n with
          | zero => omega
          | succ n =>
            refine ⟨v, w, d, rfl, HasD.same sH hvd, HasD.same sH hwd, ?_, ?_⟩
            · have := deeps_le hd1
              omega
            · intro H2 s2
              refine ⟨_, rfl, ?_⟩
              exact ⟨_, rfl, sH.trans s2⟩
        · obtain ⟨y, rfl, sH⟩ := hv
          exact q _ sH
    | @tup b ys ds hb hys hbig =>
      cases hv with
      | @tup a xs _ ha hxs _ =>
      refine g_testB (b := decide (V.ref b = V.non)) (fun h => by simp at h) (fun _ => ?_)
      wtm_at "go"
      refine g_isi (b := false) (ty_tup hb) (by decide +kernel) ?_
      refine ⟨_, rfl, ?_⟩
      rw [if_neg Bool.false_ne_true]
      wtm_at "go"
      refine g_isi (b := false) (ty_tup hb) (by decide +kernel) ?_
      refine ⟨_, rfl, ?_⟩
      rw [if_neg Bool.false_ne_true]
      refine ⟨fun σ' H' => σ' = [some (V.ref a), some (V.ref b), none] ∧ H' = H, ?_, ?_⟩
      · wtm_at "go"
        refine g_isi (b := true) (ty_tup hb) (by decide +kernel) ?_
        refine ⟨_, rfl, ?_⟩
        rw [if_pos rfl]
        wtm_at "go"
        refine g_isi (b := true) (ty_tup ha) (by decide +kernel) ?_
        refine ⟨_, rfl, ?_⟩
        exact ⟨rfl, rfl⟩
      · rintro σ' Hq ⟨rfl, hHH⟩
        rw [hHH]
        have hdd : Dt.deeps ds + 1 ≤ n := hd
        wtm_at "go"
        refine g_lenU (st_of ha) ?_
        wtm_at "go"
        refine g_lenU (st_of hb) ?_
        refine ⟨rfl, ?_⟩
        rw [HasDs.len hxs, HasDs.len hys, decide_eq_true rfl]
        refine ⟨_, rfl, ?_⟩
        rw [Bool.not_true, if_neg Bool.false_ne_true]
        wtm_at "go"
        refine g_lenU (st_of hb) ?_
        rw [HasDs.len hys]
        refine ⟨_, rfl, by omega, by omega, for_rng (fun i σ H' => ∃ y, σ = [some (V.ref a), some (V.ref b), y] ∧ Same H H') ⟨_, rfl, Same.refl _⟩ (fun i σ H' hi hv => ?_) (fun σ H' hv => ?_)⟩
        · obtain ⟨y, rfl, sH⟩ := hv
          rw [Int.toNat_natCast] at hi
          obtain ⟨v, d, hv1, hd1, hvd⟩ := HasDs.at_ hxs hi
          obtain ⟨w, d', hw1, hd1', hwd⟩ := HasDs.at_ hys hi
          have : d = d' := by rw [hd1] at hd1'; exact Option.some.inj hd1'
          subst this
          rw [Int.zero_add]
          wtm_at "unf"
          wtm_at "go"
          refine g_ixAU (Same.get sH ha) (atI_of hv1) ?_
          wtm_at "go"
          refine g_ixAU (Same.get sH hb) (atI_of hw1) ?_
          cases n with
          | zero => omega
          | succ n =>
            refine ⟨v, w, d, rfl, HasD.same sH hvd, HasD.same sH hwd, ?_, ?_⟩
            · have := deeps_le hd1
              omega
            · intro H2 s2
              refine ⟨_, rfl, ?_⟩
              exact ⟨_, rfl, sH.trans s2⟩
        · obtain ⟨y, rfl, sH⟩ := hv
          exact q _ sH
end
end K11

set_option maxHeartbeats 4000000
namespace K11
open PySem PySem.Spec PyProof.Rows L2 SX Ly
local macro_rules | `(tactic| wtm_at "unf") => `(tactic| (try simp only [tMetX, tOwnX, tChain, tSeq, tNext, tBreak, tCont, tDrop, tRet, tRetN, tIfS, tAsg, tAug, tC, tOp, tUn, tNil, tCons, tOwn, tCB, tTest, tB, tAnd, tOr, tNot, tAndV, tOrV, tNotV, tIf, gName, gSub, tBM, tBM0, tM0, tM1, tSl, tPart_eq, tNoPart, tLst_eq, tTup_eq, tRevL_eq, tReplT, tRevS, tDGet_eq, sDPut_eq, tDNewT_eq, tMet, tMak, tFld_eq, sFld_eq, C8.tCut, wipe, tYes, gTup, gCons, gNil, List.set_cons_zero, List.set_cons_succ, if_true, if_false, Bool.false_eq_true, Bool.not_true, Bool.not_false, true_and, reduceIte, cx_K, tFor_eq, tLc_eq, iStr, iList, iTup, iRng1, iRng2, iRng3, iEnum, iZip, tLstRg, tRg1, gLst, RZ.iZipA, iEnumS, iZipS, tDNewK_eq, tDGet2, tDIn, tDNotIn, iKd]))
local macro_rules | `(tactic| wtm_at "unfA") => `(tactic| (try simp only [tMetX, tOwnX, tChain, tSeq, tNext, tBreak, tCont, tDrop, tRet, tRetN, tIfS, tAsg, tAug, tC, tOp, tUn, tNil, tCons, tOwn, tCB, tTest, tB, tAnd, tOr, tNot, tIf, gName, gSub, tBM, tBM0, tM0, tM1, tSl, tPart_eq, tNoPart, tLst_eq, tTup_eq, tRevL_eq, tReplT, tRevS, tDGet_eq, sDPut_eq, tDNewT_eq, tMet, tMak, tFld_eq, sFld_eq, C8.tCut, wipe, tYes, gTup, gCons, gNil, List.set_cons_zero, List.set_cons_succ, if_true, if_false, Bool.false_eq_true, Bool.not_true, Bool.not_false, true_and, reduceIte, cx_K, tFor_eq, tLc_eq, iStr, iList, iTup, iRng1, iRng2, iRng3, iEnum, iZip, tLstRg, tRg1, gLst, RZ.iZipA, iEnumS, iZipS, tDNewK_eq, tDGet2, tDIn, tDNotIn, iKd]))
local macro_rules | `(tactic| wtm_at "ne") => `(tactic| first | assumption | (apply Ne.symm; assumption) | (apply ne_new; (· assumption); (· wtm_at "lk")) | (apply Ne.symm; apply ne_new; (· assumption); (· wtm_at "lk")))
local macro_rules | `(tactic| wtm_at "lk") => `(tactic| first | assumption | exact upd_same | (apply Same.get; (· assumption); (· wtm_at "lk")) | (apply But.get; (· assumption); (· wtm_at "ne"); (· wtm_at "lk")))
local macro_rules | `(tactic| wtm_at "sq") => `(tactic| first | assumption | (apply sq_of; wtm_at "lk") | (apply Same.seq; (· assumption); (· wtm_at "sq")) | (apply But.sq; (· assumption); (· wtm_at "ne"); (· wtm_at "sq")))
local macro_rules | `(tactic| wtm_at "fr") => `(tactic| first | assumption | (apply Same.fr; (· assumption); (· wtm_at "sm")) | (apply But.fr; (· assumption); (· wtm_at "sm"); (· wtm_at "ne")))
local macro_rules | `(tactic| wtm_at "sm") => `(tactic| first | exact Same.refl _ | exact But.refl | assumption | (apply Same.tr; (· assumption); (· wtm_at "sm")) | (apply Same.b0; (· assumption); (· wtm_at "sm"); (· wtm_at "fr")) | (apply But.sa; (· assumption); (· wtm_at "sm")) | (apply But.tr; (· assumption); (· wtm_at "sm")) | (apply But.b0; (· assumption); (· wtm_at "sm"); (· wtm_at "fr")) | (apply Same.toBut; wtm_at "sm"))
local macro_rules | `(tactic| wtm_at "sc") => `(tactic| first | exact Int.zero_lt_one | (show (0 : Int) < _; omega) | (show (0 : Int) < _; decide) | exact ⟨by omega, by omega⟩ | exact .inl ⟨by omega, by omega⟩ | exact .inr ⟨by omega, by omega⟩)
local macro_rules | `(tactic| wtm_at "go1") => `(tactic| first | ((with_reducible apply g_var); (· exact rfl)) | with_reducible apply g_I0 | ((with_reducible apply g_I); (· wtm_at "sc")) | with_reducible apply g_U | with_reducible apply g_ipI | ((with_reducible apply g_addT); (· first | omega | (simp; done) | (simp; omega))) | with_reducible apply g_inT | with_reducible apply g_ninT | ((with_reducible apply g_lenT); (· omega)) | with_reducible apply g_findT1 | with_reducible apply g_str | with_reducible apply g_part | with_reducible apply g_intB | ((with_reducible apply g_ixL); (· wtm_at "sq"); (· exact rfl)) | ((with_reducible apply g_setL); (· wtm_at "lk"); (· exact rfl)) | ((with_reducible apply g_eq); (· rfl)) | ((with_reducible apply g_ne); (· rfl)))
local macro_rules | `(tactic| wtm_at "go") => `(tactic| repeat wtm_at "go1")
local macro_rules | `(tactic| wtm_at "lp") => `(tactic| skip)
local macro_rules | `(tactic| wtm_at "om") => `(tactic| first | omega | (simp; done) | (simp; omega) | (simp at *; omega))
local macro_rules | `(tactic| wtm_at "ty") => `(tactic| first | exact ty_str | exact ty_int | exact ty_bl | exact ty_non | (apply ty_lst; wtm_at "lk") | (apply ty_tup; wtm_at "lk"))
local macro_rules | `(tactic| wtm_at "kb") => `(tactic| first | exact kb_str_str | exact kb_str_int | exact kb_str_bool | exact kb_str_list | exact kb_str_tuple | exact kb_int_str | exact kb_int_int | exact kb_int_bool | exact kb_int_list | exact kb_int_tuple | exact kb_bool_str | exact kb_bool_int | exact kb_bool_bool | exact kb_bool_list | exact kb_bool_tuple | exact kb_list_str | exact kb_list_int | exact kb_list_bool | exact kb_list_list | exact kb_list_tuple | exact kb_tuple_str | exact kb_tuple_int | exact kb_tuple_bool | exact kb_tuple_list | exact kb_tuple_tuple | exact kb_NoneType_str | exact kb_NoneType_int | exact kb_NoneType_bool | exact kb_NoneType_list | exact kb_NoneType_tuple | exact kb_dict_str | exact kb_dict_int | exact kb_dict_bool | exact kb_dict_list | exact kb_dict_tuple)
local macro_rules | `(tactic| wtm_at "gx1") => `(tactic| first | ((with_reducible apply g_eqS); (· exact rfl)) | ((with_reducible apply g_neS); (· exact rfl)) | wtm_at "go1" | with_reducible apply g_min2 | with_reducible apply g_max2 | with_reducible apply g_T | with_reducible apply g_F | with_reducible apply g_NT | with_reducible apply g_NF | with_reducible apply g_nT | with_reducible apply g_nF | with_reducible apply g_RT | with_reducible apply g_RF | ((with_reducible apply g_isi); (· wtm_at "ty"); (· wtm_at "kb")) | ((with_reducible apply g_ixAU3); (· wtm_at "lk"); (· exact rfl)) | ((with_reducible apply g_ixAL3); (· wtm_at "lk"); (· exact rfl)) | ((with_reducible apply g_ixU3); (· wtm_at "lk"); (· exact rfl)) | ((with_reducible apply g_lenL3); (· wtm_at "lk")) | ((with_reducible apply g_lenU3); (· wtm_at "lk")) | ((with_reducible apply g_tyL3); (· wtm_at "lk")) | ((with_reducible apply g_lenT); (· wtm_at "pv")) | wtm_at "tr" | with_reducible apply g_ET | with_reducible apply g_EF | with_reducible apply g_EnT | with_reducible apply g_EnF)
local macro_rules | `(tactic| wtm_at "pv") => `(tactic| first | exact rfl | assumption | omega | (simp; done) | (simp; omega))
local macro_rules | `(tactic| wtm_at "tr") => `(tactic| first | ((with_reducible apply g_Td); (· wtm_at "pv")) | ((with_reducible apply g_Fd); (· wtm_at "pv")) | ((with_reducible apply g_NTd); (· wtm_at "pv")) | ((with_reducible apply g_NFd); (· wtm_at "pv")) | ((with_reducible apply g_nTd); (· wtm_at "pv")) | ((with_reducible apply g_nFd); (· wtm_at "pv")) | ((with_reducible apply g_RTd); (· wtm_at "pv")) | ((with_reducible apply g_RFd); (· wtm_at "pv")))
local macro_rules | `(tactic| wtm_at "gx") => `(tactic| repeat wtm_at "gx1")
local macro_rules | `(tactic| wtm_at "unfS") => `(tactic| (try simp only [tSeq, tNext, tAsg, tFor_eq, C8.tCut, wipe, gName, tDrop, List.set_cons_zero, List.set_cons_succ, cx_K]))
local macro_rules | `(tactic| wtm_at "rd1") => `(tactic| first | exact rd_int | exact rd_str | exact rd_bl | exact rd_non | exact rda_nil | apply rda_cons | (with_reducible apply rd_tup; (· assumption)) | (with_reducible apply rd_lst; (· assumption)) | exact rd_dic (by assumption) | exact rd_var rfl (.int _) | exact rd_var rfl (.str _) | exact rd_var rfl (.bl _) | exact rd_var rfl (by assumption) | (with_reducible apply rd_cat; (· assumption)) | (with_reducible apply rd_rep2; (· assumption)) | (with_reducible apply rd_rev; (· assumption)) | (with_reducible apply rd_to; (· assumption)) | (with_reducible apply rd_from; (· assumption)) | (with_reducible apply rd_tupOf; (· assumption)) | (with_reducible apply rd_lstOf; (· assumption)) | with_reducible apply rd_lenL | with_reducible apply rd_lenT | with_reducible apply rd_I0 | with_reducible apply rd_I | with_reducible apply rd_U | with_reducible apply rd_eqI | with_reducible apply rd_ixL | with_reducible apply rd_ixT | exact atI_hd _ _ | exact ‹atI _ _ = some _›)
local macro_rules | `(tactic| wtm_at "rdl") => `(tactic| first | decide | omega | wtm_at "sc" | (simp only [List.length_append, List.length_cons, List.length_nil, List.length_map, List.length_take, List.length_drop, List.length_reverse, cutTo]; omega))
local macro_rules | `(tactic| wtm_at "rd") => `(tactic| ((repeat' wtm_at "rd1"); (all_goals wtm_at "rdl")))
local macro_rules | `(tactic| wtm_at "nc") => `(tactic| repeat' (first | assumption | exact nca_nil | exact nc_non | exact nc_bl | exact nc_dic | exact nc_tup0 | exact nc_lst0 | (refine nc_strS (by decide) (by decide)) | (refine nc_int (by omega)) | (refine nc_big (by decide +kernel)) | refine nca_app ?_ ?_ | refine nca_cons ?_ ?_ | refine nca_take ?_ | refine nca_drop ?_ | refine nca_cutTo ?_ | refine nca_rev ?_ | refine nc_tup (by decide) ?_ | refine nc_lst (by decide) ?_ | refine nc_lst (Nat.le_trans (show _ ≤ 45 by wtm_at "rdl") (by decide)) ?_ | refine nc_tup (Nat.le_trans (show _ ≤ 45 by wtm_at "rdl") (by decide)) ?_))

section
variable {P : Program} {w : World} {K : PySem.W.Frag} {mg : Str → Option Value} {base : Heap}
end
end K11

set_option maxHeartbeats 4000000
namespace K11
open PySem PySem.Spec PyProof.Rows L2 SX Ly
local macro_rules | `(tactic| wtm_at "unf") => `(tactic| (try simp only [tMetX, tOwnX, tChain, tSeq, tNext, tBreak, tCont, tDrop, tRet, tRetN, tIfS, tAsg, tAug, tC, tOp, tUn, tNil, tCons, tOwn, tCB, tTest, tB, tAnd, tOr, tNot, tAndV, tOrV, tNotV, tIf, gName, gSub, tBM, tBM0, tM0, tM1, tSl, tPart_eq, tNoPart, tLst_eq, tTup_eq, tRevL_eq, tReplT, tRevS, tDGet_eq, sDPut_eq, tDNewT_eq, tMet, tMak, tFld_eq, sFld_eq, C8.tCut, wipe, tYes, gTup, gCons, gNil, List.set_cons_zero, List.set_cons_succ, if_true, if_false, Bool.false_eq_true, Bool.not_true, Bool.not_false, true_and, reduceIte, cx_K, tFor_eq, tLc_eq, iStr, iList, iTup, iRng1, iRng2, iRng3, iEnum, iZip, tLstRg, tRg1, gLst, RZ.iZipA, iEnumS, iZipS, tDNewK_eq, tDGet2, tDIn, tDNotIn, iKd]))
local macro_rules | `(tactic| wtm_at "unfA") => `(tactic| (try simp only [tMetX, tOwnX, tChain, tSeq, tNext, tBreak, tCont, tDrop, tRet, tRetN, tIfS, tAsg, tAug, tC, tOp, tUn, tNil, tCons, tOwn, tCB, tTest, tB, tAnd, tOr, tNot, tIf, gName, gSub, tBM, tBM0, tM0, tM1, tSl, tPart_eq, tNoPart, tLst_eq, tTup_eq, tRevL_eq, tReplT, tRevS, tDGet_eq, sDPut_eq, tDNewT_eq, tMet, tMak, tFld_eq, sFld_eq, C8.tCut, wipe, tYes, gTup, gCons, gNil, List.set_cons_zero, List.set_cons_succ, if_true, if_false, Bool.false_eq_true, Bool.not_true, Bool.not_false, true_and, reduceIte, cx_K, tFor_eq, tLc_eq, iStr, iList, iTup, iRng1, iRng2, iRng3, iEnum, iZip, tLstRg, tRg1, gLst, RZ.iZipA, iEnumS, iZipS, tDNewK_eq, tDGet2, tDIn, tDNotIn, iKd]))
local macro_rules | `(tactic| wtm_at "ne") => `(tactic| first | assumption | (apply Ne.symm; assumption) | (apply ne_new; (· assumption); (· wtm_at "lk")) | (apply Ne.symm; apply ne_new; (· assumption); (· wtm_at "lk")))
local macro_rules | `(tactic| wtm_at "lk") => `(tactic| first | assumption | exact upd_same | (apply Same.get; (· assumption); (· wtm_at "lk")) | (apply But.get; (· assumption); (· wtm_at "ne"); (· wtm_at "lk")))
local macro_rules | `(tactic| wtm_at "sq") => `(tactic| first | assumption | (apply sq_of; wtm_at "lk") | (apply Same.seq; (· assumption); (· wtm_at "sq")) | (apply But.sq; (· assumption); (· wtm_at "ne"); (· wtm_at "sq")))
local macro_rules | `(tactic| wtm_at "fr") => `(tactic| first | assumption | (apply Same.fr; (· assumption); (· wtm_at "sm")) | (apply But.fr; (· assumption); (· wtm_at "sm"); (· wtm_at "ne")))
local macro_rules | `(tactic| wtm_at "sm") => `(tactic| first | exact Same.refl _ | exact But.refl | assumption | (apply Same.tr; (· assumption); (· wtm_at "sm")) | (apply Same.b0; (· assumption); (· wtm_at "sm"); (· wtm_at "fr")) | (apply But.sa; (· assumption); (· wtm_at "sm")) | (apply But.tr; (· assumption); (· wtm_at "sm")) | (apply But.b0; (· assumption); (· wtm_at "sm"); (· wtm_at "fr")) | (apply Same.toBut; wtm_at "sm"))
local macro_rules | `(tactic| wtm_at "sc") => `(tactic| first | exact Int.zero_lt_one | (show (0 : Int) < _; omega) | (show (0 : Int) < _; decide) | exact ⟨by omega, by omega⟩ | exact .inl ⟨by omega, by omega⟩ | exact .inr ⟨by omega, by omega⟩)
local macro_rules | `(tactic| wtm_at "go1") => `(tactic| first | ((with_reducible apply g_var); (· exact rfl)) | with_reducible apply g_I0 | ((with_reducible apply g_I); (· wtm_at "sc")) | with_reducible apply g_U | with_reducible apply g_ipI | ((with_reducible apply g_addT); (· first | omega | (simp; done) | (simp; omega))) | with_reducible apply g_inT | with_reducible apply g_ninT | ((with_reducible apply g_lenT); (· omega)) | with_reducible apply g_findT1 | with_reducible apply g_str | with_reducible apply g_part | with_reducible apply g_intB | ((with_reducible apply g_ixL); (· wtm_at "sq"); (· exact rfl)) | ((with_reducible apply g_setL); (· wtm_at "lk"); (· exact rfl)) | ((with_reducible apply g_eq); (· rfl)) | ((with_reducible apply g_ne); (· rfl)))
local macro_rules | `(tactic| wtm_at "go") => `(tactic| repeat wtm_at "go1")
local macro_rules | `(tactic| wtm_at "lp") => `(tactic| skip)
local macro_rules | `(tactic| wtm_at "om") => `(tactic| first | omega | (simp; done) | (simp; omega) | (simp at *; omega))
local macro_rules | `(tactic| wtm_at "ty") => `(tactic| first | exact ty_str | exact ty_int | exact ty_bl | exact ty_non | (apply ty_lst; wtm_at "lk") | (apply ty_tup; wtm_at "lk"))
local macro_rules | `(tactic| wtm_at "kb") => `(tactic| first | exact kb_str_str | exact kb_str_int | exact kb_str_bool | exact kb_str_list | exact kb_str_tuple | exact kb_int_str | exact kb_int_int | exact kb_int_bool | exact kb_int_list | exact kb_int_tuple | exact kb_bool_str | exact kb_bool_int | exact kb_bool_bool | exact kb_bool_list | exact kb_bool_tuple | exact kb_list_str | exact kb_list_int | exact kb_list_bool | exact kb_list_list | exact kb_list_tuple | exact kb_tuple_str | exact kb_tuple_int | exact kb_tuple_bool | exact kb_tuple_list | exact kb_tuple_tuple | exact kb_NoneType_str | exact kb_NoneType_int | exact kb_NoneType_bool | exact kb_NoneType_list | exact kb_NoneType_tuple | exact kb_dict_str | exact kb_dict_int | exact kb_dict_bool | exact kb_dict_list | exact kb_dict_tuple)
local macro_rules | `(tactic| wtm_at "gx1") => `(tactic| first | ((with_reducible apply g_eqS); (· exact rfl)) | ((with_reducible apply g_neS); (· exact rfl)) | wtm_at "go1" | with_reducible apply g_min2 | with_reducible apply g_max2 | with_reducible apply g_T | with_reducible apply g_F | with_reducible apply g_NT | with_reducible apply g_NF | with_reducible apply g_nT | with_reducible apply g_nF | with_reducible apply g_RT | with_reducible apply g_RF | ((with_reducible apply g_isi); (· wtm_at "ty"); (· wtm_at "kb")) | ((with_reducible apply g_ixAU3); (· wtm_at "lk"); (· exact rfl)) | ((with_reducible apply g_ixAL3); (· wtm_at "lk"); (· exact rfl)) | ((with_reducible apply g_ixU3); (· wtm_at "lk"); (· exact rfl)) | ((with_reducible apply g_lenL3); (· wtm_at "lk")) | ((with_reducible apply g_lenU3); (· wtm_at "lk")) | ((with_reducible apply g_tyL3); (· wtm_at "lk")) | ((with_reducible apply g_lenT); (· wtm_at "pv")) | wtm_at "tr" | with_reducible apply g_ET | with_reducible apply g_EF | with_reducible apply g_EnT | with_reducible apply g_EnF)
local macro_rules | `(tactic| wtm_at "pv") => `(tactic| first | exact rfl | assumption | omega | (simp; done) | (simp; omega))
local macro_rules | `(tactic| wtm_at "tr") => `(tactic| first | ((with_reducible apply g_Td); (· wtm_at "pv")) | ((with_reducible apply g_Fd); (· wtm_at "pv")) | ((with_reducible apply g_NTd); (· wtm_at "pv")) | ((with_reducible apply g_NFd); (· wtm_at "pv")) | ((with_reducible apply g_nTd); (· wtm_at "pv")) | ((with_reducible apply g_nFd); (· wtm_at "pv")) | ((with_reducible apply g_RTd); (· wtm_at "pv")) | ((with_reducible apply g_RFd); (· wtm_at "pv")))
local macro_rules | `(tactic| wtm_at "gx") => `(tactic| repeat wtm_at "gx1")
local macro_rules | `(tactic| wtm_at "unfS") => `(tactic| (try simp only [tSeq, tNext, tAsg, tFor_eq, C8.tCut, wipe, gName, tDrop, List.set_cons_zero, List.set_cons_succ, cx_K]))
local macro_rules | `(tactic| wtm_at "rd1") => `(tactic| first | exact rd_int | exact rd_str | exact rd_bl | exact rd_non | exact rda_nil | apply rda_cons | (with_reducible apply rd_tup; (· assumption)) | (with_reducible apply rd_lst; (· assumption)) | exact rd_dic (by assumption) | exact rd_var rfl (.int _) | exact rd_var rfl (.str _) | exact rd_var rfl (.bl _) | exact rd_var rfl (by assumption) | (with_reducible apply rd_cat; (· assumption)) | (with_reducible apply rd_rep2; (· assumption)) | (with_reducible apply rd_rev; (· assumption)) | (with_reducible apply rd_to; (· assumption)) | (with_reducible apply rd_from; (· assumption)) | (with_reducible apply rd_tupOf; (· assumption)) | (with_reducible apply rd_lstOf; (· assumption)) | with_reducible apply rd_lenL | with_reducible apply rd_lenT | with_reducible apply rd_I0 | with_reducible apply rd_I | with_reducible apply rd_U | with_reducible apply rd_eqI | with_reducible apply rd_ixL | with_reducible apply rd_ixT | exact atI_hd _ _ | exact ‹atI _ _ = some _›)
local macro_rules | `(tactic| wtm_at "rdl") => `(tactic| first | decide | omega | wtm_at "sc" | (simp only [List.length_append, List.length_cons, List.length_nil, List.length_map, List.length_take, List.length_drop, List.length_reverse, cutTo]; omega))
local macro_rules | `(tactic| wtm_at "rd") => `(tactic| ((repeat' wtm_at "rd1"); (all_goals wtm_at "rdl")))
local macro_rules | `(tactic| wtm_at "nc") => `(tactic| repeat' (first | assumption | exact nca_nil | exact nc_non | exact nc_bl | exact nc_dic | exact nc_tup0 | exact nc_lst0 | (refine nc_strS (by decide) (by decide)) | (refine nc_int (by omega)) | (refine nc_big (by decide +kernel)) | refine nca_app ?_ ?_ | refine nca_cons ?_ ?_ | refine nca_take ?_ | refine nca_drop ?_ | refine nca_cutTo ?_ | refine nca_rev ?_ | refine nc_tup (by decide) ?_ | refine nc_lst (by decide) ?_ | refine nc_lst (Nat.le_trans (show _ ≤ 45 by wtm_at "rdl") (by decide)) ?_ | refine nc_tup (Nat.le_trans (show _ ≤ 45 by wtm_at "rdl") (by decide)) ?_))

section
variable {P : Program} {w : World} {K : PySem.W.Frag} {mg : Str → Option Value} {base : Heap}
/-! nests as the data that _law_same looks at -/
mutual
def ndT : Nd → Dt
  | .let_ c => .str [c]
  | .num i => .int i
  | .br o ds => .tup [.str [o], .lst (ndTs ds)]
def ndTs : List Nd → List Dt
  | [] => []
  | d :: ds => ndT d :: ndTs ds
end
theorem ndTs_len : ∀ ds : List Nd, (ndTs ds).length = ds.length
  | [] => by rw [ndTs]; rfl
  | d :: ds => by rw [ndTs, List.length_cons, List.length_cons, ndTs_len ds]
mutual
theorem TrI.has {K : PySem.W.Frag} {H : Hp} : ∀ {v : V} {d : Nd} {A : List Addr}, TrI H v d A → d.wide ≤ 100000 → HasD K H v (ndT d)
  | _, _, _, .let_ c, _ => by rw [ndT]; exact .str _
  | _, _, _, .num i, _ => by rw [ndT]; exact .int i
  | _, _, _, @TrI.br _ t b o xs ds A ht hb hs, h => by
    rw [Nd.wide] at h
    rw [ndT]
    have h1 := len_wides ds
    exact .tup ht (.cons (.str _) (.cons (.lst hb (TrIs.has hs h) (by rw [ndTs_len]; omega)) .nil)) (by simp)
theorem TrIs.has {K : PySem.W.Frag} {H : Hp} : ∀ {vs : List V} {ds : List Nd} {A : List Addr}, TrIs H vs ds A → Nd.wides ds ≤ 100000 → HasDs K H vs (ndTs ds)
  | _, _, _, .nil, _ => by rw [ndTs]; exact .nil
  | _, _, _, .cons hi hs, h => by
    rw [Nd.wides] at h
    rw [ndTs]
    exact .cons (TrI.has hi (by omega)) (TrIs.has hs (by omega))
end
theorem nest_has {K : PySem.W.Frag} {H : Hp} {b : Addr} {xs : List V} {ds : List Nd} {A : List Addr} (hb : H b = some (.lst xs)) (t : TrIs H xs ds A) (hw : Nd.wides ds ≤ 100000) : HasD K H (.ref b) (.lst (ndTs ds)) := by
  have := len_wides ds
  exact .lst hb (TrIs.has t hw) (by rw [ndTs_len]; omega)
mutual
theorem ndT_deep : ∀ d : Nd, (ndT d).deep ≤ 2 * d.deep
  | .let_ c => by rw [ndT]; exact Nat.zero_le _
  | .num i => by rw [ndT]; exact Nat.zero_le _
  | .br o ds => by
    have := ndTs_deep ds
    rw [ndT, Nd.deep]
    show max 0 (max (Dt.deeps (ndTs ds) + 1) 0) + 1 ≤ _
    omega
theorem ndTs_deep : ∀ ds : List Nd, Dt.deeps (ndTs ds) ≤ 2 * Nd.deeps ds
  | [] => by rw [ndTs]; exact Nat.zero_le _
  | d :: ds => by
    have h1 := ndT_deep d
    have h2 := ndTs_deep ds
    rw [ndTs, Nd.deeps]
    show max (ndT d).deep (Dt.deeps (ndTs ds)) ≤ _
    omega
end
theorem nest_deepD {ds : List Nd} {n : Nat} (h : Nd.deeps ds ≤ n) : (Dt.lst (ndTs ds)).deep ≤ 2 * n + 1 := by
  have := ndTs_deep ds
  show Dt.deeps (ndTs ds) + 1 ≤ _
  omega
/-! numbered ones -/
/-! a nest is left alone by changes of others -/
theorem mem_ndOk : ∀ {ds : List Nd} {d : Nd}, d ∈ ds → ndOk ds → ndOk1 d
  | e :: ds, d, h, k => by
    rw [ndOk] at k
    rcases List.mem_cons.mp h with rfl | h
    · exact k.1
    · exact mem_ndOk h k.2

end
end K11

set_option maxHeartbeats 4000000
namespace K11
open PySem PySem.Spec PyProof.Rows L2 SX Ly
local macro_rules | `(tactic| wtm_at "unf") => `(tactic| (try simp only [tMetX, tOwnX, tChain, tSeq, tNext, tBreak, tCont, tDrop, tRet, tRetN, tIfS, tAsg, tAug, tC, tOp, tUn, tNil, tCons, tOwn, tCB, tTest, tB, tAnd, tOr, tNot, tAndV, tOrV, tNotV, tIf, gName, gSub, tBM, tBM0, tM0, tM1, tSl, tPart_eq, tNoPart, tLst_eq, tTup_eq, tRevL_eq, tReplT, tRevS, tDGet_eq, sDPut_eq, tDNewT_eq, tMet, tMak, tFld_eq, sFld_eq, C8.tCut, wipe, tYes, gTup, gCons, gNil, List.set_cons_zero, List.set_cons_succ, if_true, if_false, Bool.false_eq_true, Bool.not_true, Bool.not_false, true_and, reduceIte, cx_K, tFor_eq, tLc_eq, iStr, iList, iTup, iRng1, iRng2, iRng3, iEnum, iZip, tLstRg, tRg1, gLst, RZ.iZipA, iEnumS, iZipS, tDNewK_eq, tDGet2, tDIn, tDNotIn, iKd]))
local macro_rules | `(tactic| wtm_at "unfA") => `(tactic| (try simp only [tMetX, tOwnX, tChain, tSeq, tNext, tBreak, tCont, tDrop, tRet, tRetN, tIfS, tAsg, tAug, tC, tOp, tUn, tNil, tCons, tOwn, tCB, tTest, tB, tAnd, tOr, tNot, tIf, gName, gSub, tBM, tBM0, tM0, tM1, tSl, tPart_eq, tNoPart, tLst_eq, tTup_eq, tRevL_eq, tReplT, tRevS, tDGet_eq, sDPut_eq, tDNewT_eq, tMet, tMak, tFld_eq, sFld_eq, C8.tCut, wipe, tYes, gTup, gCons, gNil, List.set_cons_zero, List.set_cons_succ, if_true, if_false, Bool.false_eq_true, Bool.not_true, Bool.not_false, true_and, reduceIte, cx_K, tFor_eq, tLc_eq, iStr, iList, iTup, iRng1, iRng2, iRng3, iEnum, iZip, tLstRg, tRg1, gLst, RZ.iZipA, iEnumS, iZipS, tDNewK_eq, tDGet2, tDIn, tDNotIn, iKd]))
local macro_rules | `(tactic| wtm_at "ne") => `(tactic| first | assumption | (apply Ne.symm; assumption) | (apply ne_new; (· assumption); (· wtm_at "lk")) | (apply Ne.symm; apply ne_new; (· assumption); (· wtm_at "lk")))
local macro_rules | `(tactic| wtm_at "lk") => `(tactic| first | assumption | exact upd_same | (apply Same.get; (· assumption); (· wtm_at "lk")) | (apply But.get; (· assumption); (· wtm_at "ne"); (· wtm_at "lk")))
local macro_rules | `(tactic| wtm_at "sq") => `(tactic| first | assumption | (apply sq_of; wtm_at "lk") | (apply Same.seq; (· assumption); (· wtm_at "sq")) | (apply But.sq; (· assumption); (· wtm_at "ne"); (· wtm_at "sq")))
local macro_rules | `(tactic| wtm_at "fr") => `(tactic| first | assumption | (apply Same.fr; (· assumption); (· wtm_at "sm")) | (apply But.fr; (· assumption); (· wtm_at "sm"); (· wtm_at "ne")))
local macro_rules | `(tactic| wtm_at "sm") => `(tactic| first | exact Same.refl _ | exact But.refl | assumption | (apply Same.tr; (· assumption); (· wtm_at "sm")) | (apply Same.b0; (· assumption); (· wtm_at "sm"); (· wtm_at "fr")) | (apply But.sa; (· assumption); (· wtm_at "sm")) | (apply But.tr; (· assumption); (· wtm_at "sm")) | (apply But.b0; (· assumption); (· wtm_at "sm"); (· wtm_at "fr")) | (apply Same.toBut; wtm_at "sm"))
local macro_rules | `(tactic| wtm_at "sc") => `(tactic| first | exact Int.zero_lt_one | (show (0 : Int) < _; omega) | (show (0 : Int) < _; decide) | exact ⟨by omega, by omega⟩ | exact .inl ⟨by omega, by omega⟩ | exact .inr ⟨by omega, by omega⟩)
local macro_rules | `(tactic| wtm_at "go1") => `(tactic| first | ((with_reducible apply g_var); (· exact rfl)) | with_reducible apply g_I0 | ((with_reducible apply g_I); (· wtm_at "sc")) | with_reducible apply g_U | with_reducible apply g_ipI | ((with_reducible apply g_addT); (· first | omega | (simp; done) | (simp; omega))) | with_reducible apply g_inT | with_reducible apply g_ninT | ((with_reducible apply g_lenT); (· omega)) | with_reducible apply g_findT1 | with_reducible apply g_str | with_reducible apply g_part | with_reducible apply g_intB | ((with_reducible apply g_ixL); (· wtm_at "sq"); (· exact rfl)) | ((with_reducible apply g_setL); (· wtm_at "lk"); (· exact rfl)) | ((with_reducible apply g_eq); (· rfl)) | ((with_reducible apply g_ne); (· rfl)))
local macro_rules | `(tactic| wtm_at "go") => `(tactic| repeat wtm_at "go1")
local macro_rules | `(tactic| wtm_at "lp") => `(tactic| skip)
local macro_rules | `(tactic| wtm_at "om") => `(tactic| first | omega | (simp; done) | (simp; omega) | (simp at *; omega))
local macro_rules | `(tactic| wtm_at "ty") => `(tactic| first | exact ty_str | exact ty_int | exact ty_bl | exact ty_non | (apply ty_lst; wtm_at "lk") | (apply ty_tup; wtm_at "lk"))
local macro_rules | `(tactic| wtm_at "kb") => `(tactic| first | exact kb_str_str | exact kb_str_int | exact kb_str_bool | exact kb_str_list | exact kb_str_tuple | exact kb_int_str | exact kb_int_int | exact kb_int_bool | exact kb_int_list | exact kb_int_tuple | exact kb_bool_str | exact kb_bool_int | exact kb_bool_bool | exact kb_bool_list | exact kb_bool_tuple | exact kb_list_str | exact kb_list_int | exact kb_list_bool | exact kb_list_list | exact kb_list_tuple | exact kb_tuple_str | exact kb_tuple_int | exact kb_tuple_bool | exact kb_tuple_list | exact kb_tuple_tuple | exact kb_NoneType_str | exact kb_NoneType_int | exact kb_NoneType_bool | exact kb_NoneType_list | exact kb_NoneType_tuple | exact kb_dict_str | exact kb_dict_int | exact kb_dict_bool | exact kb_dict_list | exact kb_dict_tuple)
local macro_rules | `(tactic| wtm_at "gx1") => `(tactic| first | ((with_reducible apply g_eqS); (· exact rfl)) | ((with_reducible apply g_neS); (· exact rfl)) | wtm_at "go1" | with_reducible apply g_min2 | with_reducible apply g_max2 | with_reducible apply g_T | with_reducible apply g_F | with_reducible apply g_NT | with_reducible apply g_NF | with_reducible apply g_nT | with_reducible apply g_nF | with_reducible apply g_RT | with_reducible apply g_RF | ((with_reducible apply g_isi); (· wtm_at "ty"); (· wtm_at "kb")) | ((with_reducible apply g_ixAU3); (· wtm_at "lk"); (· exact rfl)) | ((with_reducible apply g_ixAL3); (· wtm_at "lk"); (· exact rfl)) | ((with_reducible apply g_ixU3); (· wtm_at "lk"); (· exact rfl)) | ((with_reducible apply g_lenL3); (· wtm_at "lk")) | ((with_reducible apply g_lenU3); (· wtm_at "lk")) | ((with_reducible apply g_tyL3); (· wtm_at "lk")) | ((with_reducible apply g_lenT); (· wtm_at "pv")) | wtm_at "tr" | with_reducible apply g_ET | with_reducible apply g_EF | with_reducible apply g_EnT | with_reducible apply g_EnF)
local macro_rules | `(tactic| wtm_at "pv") => `(tactic| first | exact rfl | assumption | omega | (simp; done) | (simp; omega))
local macro_rules | `(tactic| wtm_at "tr") => `(tactic| first | ((with_reducible apply g_Td); (· wtm_at "pv")) | ((with_reducible apply g_Fd); (· wtm_at "pv")) | ((with_reducible apply g_NTd); (· wtm_at "pv")) | ((with_reducible apply g_NFd); (· wtm_at "pv")) | ((with_reducible apply g_nTd); (· wtm_at "pv")) | ((with_reducible apply g_nFd); (· wtm_at "pv")) | ((with_reducible apply g_RTd); (· wtm_at "pv")) | ((with_reducible apply g_RFd); (· wtm_at "pv")))
local macro_rules | `(tactic| wtm_at "gx") => `(tactic| repeat wtm_at "gx1")
local macro_rules | `(tactic| wtm_at "unfS") => `(tactic| (try simp only [tSeq, tNext, tAsg, tFor_eq, C8.tCut, wipe, gName, tDrop, List.set_cons_zero, List.set_cons_succ, cx_K]))
local macro_rules | `(tactic| wtm_at "rd1") => `(tactic| first | exact rd_int | exact rd_str | exact rd_bl | exact rd_non | exact rda_nil | apply rda_cons | (with_reducible apply rd_tup; (· assumption)) | (with_reducible apply rd_lst; (· assumption)) | exact rd_dic (by assumption) | exact rd_var rfl (.int _) | exact rd_var rfl (.str _) | exact rd_var rfl (.bl _) | exact rd_var rfl (by assumption) | (with_reducible apply rd_cat; (· assumption)) | (with_reducible apply rd_rep2; (· assumption)) | (with_reducible apply rd_rev; (· assumption)) | (with_reducible apply rd_to; (· assumption)) | (with_reducible apply rd_from; (· assumption)) | (with_reducible apply rd_tupOf; (· assumption)) | (with_reducible apply rd_lstOf; (· assumption)) | with_reducible apply rd_lenL | with_reducible apply rd_lenT | with_reducible apply rd_I0 | with_reducible apply rd_I | with_reducible apply rd_U | with_reducible apply rd_eqI | with_reducible apply rd_ixL | with_reducible apply rd_ixT | exact atI_hd _ _ | exact ‹atI _ _ = some _›)
local macro_rules | `(tactic| wtm_at "rdl") => `(tactic| first | decide | omega | wtm_at "sc" | (simp only [List.length_append, List.length_cons, List.length_nil, List.length_map, List.length_take, List.length_drop, List.length_reverse, cutTo]; omega))
local macro_rules | `(tactic| wtm_at "rd") => `(tactic| ((repeat' wtm_at "rd1"); (all_goals wtm_at "rdl")))
local macro_rules | `(tactic| wtm_at "nc") => `(tactic| repeat' (first | assumption | exact nca_nil | exact nc_non | exact nc_bl | exact nc_dic | exact nc_tup0 | exact nc_lst0 | (refine nc_strS (by decide) (by decide)) | (refine nc_int (by omega)) | (refine nc_big (by decide +kernel)) | refine nca_app ?_ ?_ | refine nca_cons ?_ ?_ | refine nca_take ?_ | refine nca_drop ?_ | refine nca_cutTo ?_ | refine nca_rev ?_ | refine nc_tup (by decide) ?_ | refine nc_lst (by decide) ?_ | refine nc_lst (Nat.le_trans (show _ ≤ 45 by wtm_at "rdl") (by decide)) ?_ | refine nc_tup (Nat.le_trans (show _ ≤ 45 by wtm_at "rdl") (by decide)) ?_))

section
variable {P : Program} {w : World} {K : PySem.W.Frag} {mg : Str → Option Value} {base : Heap}
theorem g_extend {H : Hp} {Q : VK} {p a : Addr} {xs ys : List V} (h : H p = some (.lst xs)) (h2 : H a = some (.lst ys)) (hl : xs.length + ys.length ≤ 100000) (q : ∀ H1, But p H H1 → H1 p = some (.lst (xs ++ ys)) → Q .non H1) : rExtend (.ref p) [.ref a] H Q :=
  ⟨p, a, xs, ys, rfl, rfl, h, h2, Nat.le_trans hl (by decide), q _ But.set upd_same⟩
theorem Bld.renew {N N' : Addr → Prop} {H : Hp} {b : Addr} {bs : List Addr} {fs : List (List Nd × Nat)} {cur : List Nd} (B : Bld N H b bs fs cur) (h : ∀ x ys, N x → H x = some (.lst ys) → N' x) : Bld N' H b bs fs cur := by
  obtain ⟨xs, A1, A, h1, h2, h3, h4, h5⟩ := B.ex
  refine ⟨xs, A1, A, h1, h2, h3, h4, fun x hx => ?_⟩
  have hN := h5 x hx
  rcases List.mem_cons.mp hx with rfl | hx
  · exact h _ _ hN h1
  · rcases List.mem_append.mp hx with hx | hx
    · obtain ⟨ys, e⟩ := TrIs.lsts h2 x hx
      exact h _ _ hN e
    · obtain ⟨ys, e⟩ := Ctx.lsts h3 x hx
      exact h _ _ hN e
theorem drop_rev {b b' : Addr} {bs bs' : List Addr} {n : Nat} (h : (b :: bs).drop n = b' :: bs') : (bs.reverse.map V.ref ++ [V.ref b]).take ((b :: bs).length - n) = bs'.reverse.map V.ref ++ [V.ref b'] := by
  have e1 : bs.reverse.map V.ref ++ [V.ref b] = ((b :: bs).reverse).map V.ref := by simp
  have e2 : bs'.reverse.map V.ref ++ [V.ref b'] = ((b' :: bs').reverse).map V.ref := by simp
  rw [e1, e2, ← h, ← List.map_take]
  congr 1
  have : ((b :: bs).drop n).reverse = (b :: bs).reverse.take ((b :: bs).length - n) := by
    rw [List.take_reverse]
    congr 1
    rcases Nat.le_total n (b :: bs).length with hn | hn
    · rw [show (b :: bs).length - ((b :: bs).length - n) = n by omega]
    · rw [show (b :: bs).length - ((b :: bs).length - n) = (b :: bs).length by omega, List.drop_length, List.drop_of_length_le hn]
  exact this.symm
theorem last_at {b b' : Addr} {bs : List Addr} {n : Nat} (h : (b :: bs).drop n = [b']) : (bs.reverse.map V.ref ++ [V.ref b])[0]? = some (V.ref b') := by
  have e := drop_rev (bs' := []) h
  have hl := congrArg List.length h
  rw [List.length_drop] at hl
  rw [show (b :: bs).length - n = 1 by simpa using hl] at e
  have e2 : (bs.reverse.map V.ref ++ [V.ref b])[0]? = ((bs.reverse.map V.ref ++ [V.ref b]).take 1)[0]? := by rw [List.getElem?_take]; simp
  rw [e2, e]
  rfl
/-! lines_of -/
def sp_lines_of : Nat → Sp
  | 0 => fun _ _ _ _ => False
  | n + 1 => fun vs H Q _ => ∃ (b : Addr) (xs : List V) (ds : List Nd) (A : List Addr) (k : Nat), vs = [.ref b, .int k] ∧ H b = some (.lst xs) ∧ TrIs H xs ds A ∧ ndOk ds ∧ Nd.deeps ds ≤ n ∧ k + Nd.deeps ds ≤ 1000 ∧ (txN ds).length ≤ 1000 ∧ ∀ (p : Addr) (H' : Hp), H p = none → Same H H' → H' p = some (.lst ((lnN ds k).map Tx)) → Q (.ref p) H'
theorem ok_lines_of (T : Facts K mg) (n : Nat) : C8.Cal P w K mg base (n + 1) "lines_of" (sp_lines_of n) [] := by
  induction n with
  | zero => exact cal_false T.f_lines_of sc_lines_of (fun _ _ _ _ h => h)
  | succ n ih =>
  rw [show n + 1 + 1 = (n + 1) + 1 by omega]
  refine calD T.f_lines_of sc_lines_of (fun vs H Q E h => ?_) (fun f cdv A outer s H vs Q E hr h => ?_)
  · obtain ⟨b, xs, ds, A, k, rfl, hb, ht, hok, hd, hk, hl, q⟩ := h; rfl
  · obtain ⟨b, xs, ds, A, k, rfl, hb, ht, hok, hd, hk, hl, q⟩ := h
    refine ⟨_, (pss_cons (ps_set (i := 2) sc_lines_of.nd rfl (Or.inl rfl) (pe_lst pa_nil))
       (pss_cons (ps_for PassesOwn.never rfl (pi_list (pv 0)) (pg_name (i := 3) sc_lines_of.nd rfl (Or.inl rfl))
       (pss_one (ps_if (pt_val (pe_callB call_isi rfl T.b_isinstance (by decide +kernel) (pa_cons (pv 3) (pa_cons (pe_bltn (v := .ty "tuple") rfl T.b_tuple (by decide +kernel) rfl) pa_nil))))
       (pss_cons (ps_expr (pe_bm PySem.F.plainAttrs_list PySem.F.slot_list_append PySem.F.type_list_append mt_append (pv 2) (pa_cons (pe_op op_addT (pe_op op_mulT (pe_strS (l := [32]) (by decide +kernel)) (pv 1)) (pe_ix ix_seq (pv 3) pe_int (fun _ _ => rfl))) pa_nil)))
       (pss_one (ps_expr (pe_bm PySem.F.plainAttrs_list PySem.F.slot_list_extend PySem.F.type_list_extend mt_extend (pv 2) (pa_cons (pe_own ih hr (Nat.le_refl _) rfl (pa_cons (pe_ix ix_seq (pv 3) pe_int (fun _ _ => rfl)) (pa_cons (pe_op op_add (pv 1) pe_int) pa_nil))) pa_nil)))))
       (pss_one (ps_expr (pe_bm PySem.F.plainAttrs_list PySem.F.slot_list_append PySem.F.type_list_append mt_append (pv 2) (pa_cons (pe_op op_addT (pe_op op_mulT (pe_strS (l := [32]) (by decide +kernel)) (pv 1)) (pv 3)) pa_nil)))))))
       (pss_one (ps_ret (pv 2))))), ?_⟩
    rw [st_lines_of]
    wtm_at "unf"
    wtm_at "gx"
    refine g_lst (by show 0 ≤ 100000; decide) fun r H1 nr s1 er => ?_
    wtm_at "gx"
    refine ⟨_, rfl, ⟨_, sq_of (s1 _ _ hb)⟩, for_lst xs (fun pre σ H' => ∃ (ds1 ds2 : List Nd) (A2 : List Addr) (y : Option V), ds = ds1 ++ ds2 ∧ Same H H' ∧ H' r = some (.lst ((lnN ds1 k).map Tx)) ∧ σ = [some (V.ref b), some (V.int k), some (V.ref r), y] ∧ TrIs H (xs.drop pre.length) ds2 A2)
      ⟨[], ds, A, _, rfl, s1, by rw [lnN]; exact er, rfl, ht⟩ (fun pre post σ H' e hv => ?_) (fun pre x post σ H' e hv => ?_) (fun σ H' hv => ?_)⟩
    · obtain ⟨ds1, ds2, A2, y, e1, sH, er2, rfl, t2⟩ := hv
      exact sq_of (sH _ _ hb)
    · obtain ⟨ds1, ds2, A2, y, e1, sH, er2, rfl, t2⟩ := hv
      rw [show xs.drop pre.length = x :: post by rw [e]; exact List.drop_left] at t2
      have hnx : xs.drop (pre ++ [x]).length = post := by
        rw [e, show pre ++ x :: post = (pre ++ [x]) ++ post by simp]
        exact List.drop_left
      cases t2 with
      | @cons _ _ d ds3 B A3 ti t3 =>
      have hmem : d ∈ ds := by rw [e1]; simp
      have hok1 := mem_ndOk hmem hok
      have hdd := mem_deeps hmem
      have hlen : (txN ds1).length + ((txI d).length + (txN ds3).length) ≤ 1000 := by
        rw [e1, txN_app, txN, List.length_append, List.length_append] at hl
        exact hl
      have hm1 := lnN_many ds1 k
      cases ti with
      | let_ c =>
        wtm_at "unf"
        wtm_at "gx"
        refine g_mulT (n := k) (by omega) (by simp; omega) ?_
        wtm_at "gx"
        refine g_addT (by have := blk_len k; unfold blk at this; rw [this]; simp; omega) ?_
        refine g_append1 er2 (by simp; omega) fun H2 b2 e2 => ?_
        refine ⟨ds1 ++ [.let_ c], ds3, A3, _, by rw [e1]; simp, Same.b0 b2 sH nr, ?_, rfl, by rw [hnx]; exact t3⟩
        rw [e2, lnN_app, lnN_one, lnI, List.map_append]
        rfl
      | num i =>
        simp [ndOk1] at hok1
      | @br t b' o xs' ds' A' h1 h2 h3 =>
        rw [ndOk1] at hok1
        rw [Nd.deep] at hdd
        have ht' : H' t = some (.tup [Tx [o], V.ref b']) := sH _ _ h1
        have hlt : (txI (.br o ds')).length = (txN ds').length + 2 := by rw [txI]; simp
        wtm_at "unf"
        wtm_at "gx"
        refine g_mulT (n := k) (by omega) (by simp; omega) ?_
        wtm_at "gx"
        refine g_addT (by have := blk_len k; unfold blk at this; rw [this]; simp; omega) ?_
        refine g_append1 er2 (by simp; omega) fun H2 b2 e2 => ?_
        have sH2 : Same H H2 := Same.b0 b2 sH nr
        have ht2 : H2 t = some (.tup [Tx [o], V.ref b']) := sH2 _ _ h1
        wtm_at "gx"
        cases n with
        | zero => omega
        | succ n =>
          have hm2 := lnN_many ds' (k + 1)
          refine ⟨b', xs', ds', A', k + 1, rfl, sH2 _ _ h2, TrIs.same sH2 h3, hok1.2, by omega, by omega, by omega, fun p3 H3 np3 s3 e3 => ?_⟩
          refine g_extend (s3 _ _ e2) e3 (by simp; omega) fun H4 b4 e4 => ?_
          refine ⟨ds1 ++ [.br o ds'], ds3, A3, _, by rw [e1]; simp, Same.b0 b4 (sH2.trans s3) nr, ?_, rfl, by rw [hnx]; exact t3⟩
          rw [e4, lnN_app, lnN_one, lnI, List.map_append]
          simp only [List.map_cons, List.append_assoc]
          rfl
    · obtain ⟨ds1, ds2, A2, y, e1, sH, er2, rfl, t2⟩ := hv
      rw [List.drop_length] at t2
      cases t2
      rw [List.append_nil] at e1
      subst e1
      wtm_at "unf"
      wtm_at "gx"
      exact q r H' nr sH er2
/-! outline -/
def sp_outline : Sp := fun vs H Q _ => ∃ (b : Addr) (xs : List V) (ds : List Nd) (A : List Addr), vs = [.ref b] ∧ H b = some (.lst xs) ∧ TrIs H xs ds A ∧ ndOk ds ∧ Nd.deeps ds ≤ 60 ∧ (txN ds).length ≤ 1000 ∧ ∀ H', Same H H' → Q (Tx (TL.joinL [10] (lnN ds 0))) H'
theorem ok_outline (T : Facts K mg) : C8.Cal P w K mg base 64 "outline" sp_outline [] := by
  refine calD T.f_outline sc_outline (fun vs H Q E h => ?_) (fun f cdv A outer s H vs Q E hr h => ?_)
  · obtain ⟨b, xs, ds, A, rfl, hb, ht, hok, hd, hl, q⟩ := h; rfl
  · obtain ⟨b, xs, ds, A, rfl, hb, ht, hok, hd, hl, q⟩ := h
    refine ⟨_, (pss_one (ps_ret (pe_m1 PySem.F.slot_str_join PySem.F.type_str_join mt_joinT (pe_strS (l := [10]) (by decide +kernel)) (pe_own (ok_lines_of T 62) hr (by omega) rfl (pa_cons (pv 0) (pa_cons pe_int pa_nil)))))), ?_⟩
    rw [st_outline]
    wtm_at "unf"
    wtm_at "gx"
    refine ⟨b, xs, ds, A, 0, rfl, hb, ht, hok, by show _ ≤ 61; omega, by omega, hl, fun p H1 np s1 e1 => ?_⟩
    have hm := lnN_many ds 0
    have hsum := sum_le (n := 61) (lnN ds 0) fun x hx => by have := lnN_len ds 0 x hx; omega
    refine g_joinT (sq_of e1) (by simp only [List.length_cons, List.length_nil]; omega) (q _ s1)
/-! _law_outline -/
def sp_law_outline : Sp := fun vs H Q _ => ∃ l : List Nat, vs = [Tx l] ∧ l.length ≤ 120 ∧ clean l ∧ ∀ H', Same H H' → Q (Tx (TL.joinL [10] (lnN (nestD l) 0))) H'
theorem ok_law_outline (T : Facts K mg) : C8.Cal P w K mg base 1 "_law_outline" sp_law_outline [] := by
  refine calD T.f_law_outline sc_law_outline (fun vs H Q E h => ?_) (fun f cdv A outer s H vs Q E hr h => ?_)
  · obtain ⟨l, rfl, hl, hc, q⟩ := h; rfl
  · obtain ⟨l, rfl, hl, hc, q⟩ := h
    refine ⟨_, (pss_cons (ps_set (i := 1) sc_law_outline.nd rfl (Or.inl rfl) (pe_lst pa_nil))
       (pss_cons (ps_set (i := 2) sc_law_outline.nd rfl (Or.inl rfl) pe_int)
       (pss_cons (ps_for PassesOwn.never rfl (pi_str (pv 0)) (pg_name (i := 3) sc_law_outline.nd rfl (Or.inl rfl))
       (pss_one (ps_if (pt_cmpR op_inT (pv 3) (pe_strS (l := CLO) (by decide +kernel)) (by rfl))
       (pss_one (ps_set (i := 2) sc_law_outline.nd rfl (Or.inl rfl) (pe_op op_sub (pv 2) pe_int)))
       (pss_cons (ps_expr (pe_bm PySem.F.plainAttrs_list PySem.F.slot_list_append PySem.F.type_list_append mt_append (pv 1) (pa_cons (pe_op op_addT (pe_op op_mulT (pe_strS (l := [32]) (by decide +kernel)) (pv 2)) (pv 3)) pa_nil)))
       (pss_one (ps_set (i := 2) sc_law_outline.nd rfl (Or.inl rfl) (pe_op op_add (pv 2) (pe_callTy call_intB rfl T.b_int (by decide +kernel) (pa_cons (pe_cmpR op_inT (pv 3) (pe_strS (l := OPN) (by decide +kernel)) (by rfl)) pa_nil)))))))))
       (pss_one (ps_ret (pe_m1 PySem.F.slot_str_join PySem.F.type_str_join mt_joinT (pe_strS (l := [10]) (by decide +kernel)) (pv 1))))))), ?_⟩
    rw [st_law_outline]
    have hln := lnS_nest hc
    have htx := tx_nest hc
    have hdp := nest_deep hc
    have hm := lnN_many (nestD l) 0
    rw [htx] at hm
    have hsum := sum_le (n := 61) (lnN (nestD l) 0) fun x hx => by have := lnN_len (nestD l) 0 x hx; omega
    wtm_at "unf"
    wtm_at "gx"
    refine g_lst (by show 0 ≤ 100000; decide) fun r H1 nr s1 er => ?_
    wtm_at "gx"
    refine ⟨_, rfl, for_txt (fun pre σ H' => ∃ y, σ = [some (Tx l), some (V.ref r), some (V.int ((nst pre).1.length : Nat)), y] ∧ Same H H' ∧ H' r = some (.lst ((lnS (nst pre)).map Tx))) ⟨_, rfl, s1, by rw [lnS_nil]; exact er⟩ (fun pre c post σ H' e hv => ?_) (fun σ H' hv => ?_)⟩
    · obtain ⟨y, rfl, sH, er2⟩ := hv
      have hst := lnS_step hc e
      have hpl : pre.length < 120 := by rw [e] at hl; simp at hl; omega
      have bd := (nst_bd pre).2.1
      obtain ⟨more, hmore⟩ := lnS_more hc (c :: post) pre e
      have hml : (lnS (nst pre)).length ≤ 120 := by
        have := congrArg List.length hmore
        rw [hln, List.length_append] at this
        omega
      wtm_at "unf"
      wtm_at "gx"
      refine g_test (fun h2 => ?_) (fun h2 => ?_)
      · obtain ⟨ds, o, fs, hf, _⟩ := nst_clo hc e h2
        rw [if_pos h2, List.append_nil] at hst
        have en : (nst (pre ++ [c])).1 = fs := by rw [nst_snoc]; unfold nstep; rw [if_pos h2, hf]
        wtm_at "gx"
        refine ⟨some (Tx [c]), ?_, sH, by rw [hst]; exact er2⟩
        rw [en, hf, List.length_cons, show (((fs.length + 1 : Nat) : Int) - 1) = (fs.length : Int) by omega]
      · rw [if_neg h2] at hst
        wtm_at "gx"
        refine g_mulT (n := (nst pre).1.length) (by omega) (by simp; omega) ?_
        wtm_at "gx"
        refine g_addT (by have := blk_len (nst pre).1.length; unfold blk at this; rw [this]; simp; omega) ?_
        refine g_append1 er2 (by simp; omega) fun H2 b2 e2 => ?_
        wtm_at "gx"
        refine ⟨some (Tx [c]), ?_, Same.b0 b2 sH nr, ?_⟩
        · by_cases h1 : c ∈ OPN
          · rw [decide_eq_true h1]
            have en : (nst (pre ++ [c])).1 = ((nst pre).2, c) :: (nst pre).1 := by rw [nst_snoc]; unfold nstep; rw [if_neg h2, if_pos h1]
            rw [en, List.length_cons]
            rfl
          · rw [decide_eq_false h1]
            have en : (nst (pre ++ [c])).1 = (nst pre).1 := by rw [nst_snoc]; unfold nstep; rw [if_neg h2, if_neg h1]
            rw [en]
            simp
        · rw [e2, hst, List.map_append]
          rfl
    · obtain ⟨y, rfl, sH, er2⟩ := hv
      wtm_at "unf"
      wtm_at "gx"
      rw [hln] at er2
      refine g_joinT (sq_of er2) (by simp only [List.length_cons, List.length_nil]; omega) (q _ sH)
end
end K11

set_option maxHeartbeats 4000000
namespace K11
open PySem PySem.Spec PyProof.Rows L2 SX Ly
local macro_rules | `(tactic| wtm_at "unf") => `(tactic| (try simp only [tMetX, tOwnX, tChain, tSeq, tNext, tBreak, tCont, tDrop, tRet, tRetN, tIfS, tAsg, tAug, tC, tOp, tUn, tNil, tCons, tOwn, tCB, tTest, tB, tAnd, tOr, tNot, tAndV, tOrV, tNotV, tIf, gName, gSub, tBM, tBM0, tM0, tM1, tSl, tPart_eq, tNoPart, tLst_eq, tTup_eq, tRevL_eq, tReplT, tRevS, tDGet_eq, sDPut_eq, tDNewT_eq, tMet, tMak, tFld_eq, sFld_eq, C8.tCut, wipe, tYes, gTup, gCons, gNil, List.set_cons_zero, List.set_cons_succ, if_true, if_false, Bool.false_eq_true, Bool.not_true, Bool.not_false, true_and, reduceIte, cx_K, tFor_eq, tLc_eq, iStr, iList, iTup, iRng1, iRng2, iRng3, iEnum, iZip, tLstRg, tRg1, gLst, RZ.iZipA, iEnumS, iZipS, tDNewK_eq, tDGet2, tDIn, tDNotIn, iKd]))
local macro_rules | `(tactic| wtm_at "unfA") => `(tactic| (try simp only [tMetX, tOwnX, tChain, tSeq, tNext, tBreak, tCont, tDrop, tRet, tRetN, tIfS, tAsg, tAug, tC, tOp, tUn, tNil, tCons, tOwn, tCB, tTest, tB, tAnd, tOr, tNot, tIf, gName, gSub, tBM, tBM0, tM0, tM1, tSl, tPart_eq, tNoPart, tLst_eq, tTup_eq, tRevL_eq, tReplT, tRevS, tDGet_eq, sDPut_eq, tDNewT_eq, tMet, tMak, tFld_eq, sFld_eq, C8.tCut, wipe, tYes, gTup, gCons, gNil, List.set_cons_zero, List.set_cons_succ, if_true, if_false, Bool.false_eq_true, Bool.not_true, Bool.not_false, true_and, reduceIte, cx_K, tFor_eq, tLc_eq, iStr, iList, iTup, iRng1, iRng2, iRng3, iEnum, iZip, tLstRg, tRg1, gLst, RZ.iZipA, iEnumS, iZipS, tDNewK_eq, tDGet2, tDIn, tDNotIn, iKd]))
local macro_rules | `(tactic| wtm_at "ne") => `(tactic| first | assumption | (apply Ne.symm; assumption) | (apply ne_new; (· assumption); (· wtm_at "lk")) | (apply Ne.symm; apply ne_new; (· assumption); (· wtm_at "lk")))
local macro_rules | `(tactic| wtm_at "lk") => `(tactic| first | assumption | exact upd_same | (apply Same.get; (· assumption); (· wtm_at "lk")) | (apply But.get; (· assumption); (· wtm_at "ne"); (· wtm_at "lk")))
local macro_rules | `(tactic| wtm_at "sq") => `(tactic| first | assumption | (apply sq_of; wtm_at "lk") | (apply Same.seq; (· assumption); (· wtm_at "sq")) | (apply But.sq; (· assumption); (· wtm_at "ne"); (· wtm_at "sq")))
local macro_rules | `(tactic| wtm_at "fr") => `(tactic| first | assumption | (apply Same.fr; (· assumption); (· wtm_at "sm")) | (apply But.fr; (· assumption); (· wtm_at "sm"); (· wtm_at "ne")))
local macro_rules | `(tactic| wtm_at "sm") => `(tactic| first | exact Same.refl _ | exact But.refl | assumption | (apply Same.tr; (· assumption); (· wtm_at "sm")) | (apply Same.b0; (· assumption); (· wtm_at "sm"); (· wtm_at "fr")) | (apply But.sa; (· assumption); (· wtm_at "sm")) | (apply But.tr; (· assumption); (· wtm_at "sm")) | (apply But.b0; (· assumption); (· wtm_at "sm"); (· wtm_at "fr")) | (apply Same.toBut; wtm_at "sm"))
local macro_rules | `(tactic| wtm_at "sc") => `(tactic| first | exact Int.zero_lt_one | (show (0 : Int) < _; omega) | (show (0 : Int) < _; decide) | exact ⟨by omega, by omega⟩ | exact .inl ⟨by omega, by omega⟩ | exact .inr ⟨by omega, by omega⟩)
local macro_rules | `(tactic| wtm_at "go1") => `(tactic| first | ((with_reducible apply g_var); (· exact rfl)) | with_reducible apply g_I0 | ((with_reducible apply g_I); (· wtm_at "sc")) | with_reducible apply g_U | with_reducible apply g_ipI | ((with_reducible apply g_addT); (· first | omega | (simp; done) | (simp; omega))) | with_reducible apply g_inT | with_reducible apply g_ninT | ((with_reducible apply g_lenT); (· omega)) | with_reducible apply g_findT1 | with_reducible apply g_str | with_reducible apply g_part | with_reducible apply g_intB | ((with_reducible apply g_ixL); (· wtm_at "sq"); (· exact rfl)) | ((with_reducible apply g_setL); (· wtm_at "lk"); (· exact rfl)) | ((with_reducible apply g_eq); (· rfl)) | ((with_reducible apply g_ne); (· rfl)))
local macro_rules | `(tactic| wtm_at "go") => `(tactic| repeat wtm_at "go1")
local macro_rules | `(tactic| wtm_at "lp") => `(tactic| skip)
local macro_rules | `(tactic| wtm_at "om") => `(tactic| first | omega | (simp; done) | (simp; omega) | (simp at *; omega))
local macro_rules | `(tactic| wtm_at "ty") => `(tactic| first | exact ty_str | exact ty_int | exact ty_bl | exact ty_non | (apply ty_lst; wtm_at "lk") | (apply ty_tup; wtm_at "lk"))
local macro_rules | `(tactic| wtm_at "kb") => `(tactic| first | exact kb_str_str | exact kb_str_int | exact kb_str_bool | exact kb_str_list | exact kb_str_tuple | exact kb_int_str | exact kb_int_int | exact kb_int_bool | exact kb_int_list | exact kb_int_tuple | exact kb_bool_str | exact kb_bool_int | exact kb_bool_bool | exact kb_bool_list | exact kb_bool_tuple | exact kb_list_str | exact kb_list_int | exact kb_list_bool | exact kb_list_list | exact kb_list_tuple | exact kb_tuple_str | exact kb_tuple_int | exact kb_tuple_bool | exact kb_tuple_list | exact kb_tuple_tuple | exact kb_NoneType_str | exact kb_NoneType_int | exact kb_NoneType_bool | exact kb_NoneType_list | exact kb_NoneType_tuple | exact kb_dict_str | exact kb_dict_int | exact kb_dict_bool | exact kb_dict_list | exact kb_dict_tuple)
local macro_rules | `(tactic| wtm_at "gx1") => `(tactic| first | ((with_reducible apply g_eqS); (· exact rfl)) | ((with_reducible apply g_neS); (· exact rfl)) | wtm_at "go1" | with_reducible apply g_min2 | with_reducible apply g_max2 | with_reducible apply g_T | with_reducible apply g_F | with_reducible apply g_NT | with_reducible apply g_NF | with_reducible apply g_nT | with_reducible apply g_nF | with_reducible apply g_RT | with_reducible apply g_RF | ((with_reducible apply g_isi); (· wtm_at "ty"); (· wtm_at "kb")) | ((with_reducible apply g_ixAU3); (· wtm_at "lk"); (· exact rfl)) | ((with_reducible apply g_ixAL3); (· wtm_at "lk"); (· exact rfl)) | ((with_reducible apply g_ixU3); (· wtm_at "lk"); (· exact rfl)) | ((with_reducible apply g_lenL3); (· wtm_at "lk")) | ((with_reducible apply g_lenU3); (· wtm_at "lk")) | ((with_reducible apply g_tyL3); (· wtm_at "lk")) | ((with_reducible apply g_lenT); (· wtm_at "pv")) | wtm_at "tr" | with_reducible apply g_ET | with_reducible apply g_EF | with_reducible apply g_EnT | with_reducible apply g_EnF)
local macro_rules | `(tactic| wtm_at "pv") => `(tactic| first | exact rfl | assumption | omega | (simp; done) | (simp; omega))
local macro_rules | `(tactic| wtm_at "tr") => `(tactic| first | ((with_reducible apply g_Td); (· wtm_at "pv")) | ((with_reducible apply g_Fd); (· wtm_at "pv")) | ((with_reducible apply g_NTd); (· wtm_at "pv")) | ((with_reducible apply g_NFd); (· wtm_at "pv")) | ((with_reducible apply g_nTd); (· wtm_at "pv")) | ((with_reducible apply g_nFd); (· wtm_at "pv")) | ((with_reducible apply g_RTd); (· wtm_at "pv")) | ((with_reducible apply g_RFd); (· wtm_at "pv")))
local macro_rules | `(tactic| wtm_at "gx") => `(tactic| repeat wtm_at "gx1")
local macro_rules | `(tactic| wtm_at "unfS") => `(tactic| (try simp only [tSeq, tNext, tAsg, tFor_eq, C8.tCut, wipe, gName, tDrop, List.set_cons_zero, List.set_cons_succ, cx_K]))
local macro_rules | `(tactic| wtm_at "rd1") => `(tactic| first | exact rd_int | exact rd_str | exact rd_bl | exact rd_non | exact rda_nil | apply rda_cons | (with_reducible apply rd_tup; (· assumption)) | (with_reducible apply rd_lst; (· assumption)) | exact rd_dic (by assumption) | exact rd_var rfl (.int _) | exact rd_var rfl (.str _) | exact rd_var rfl (.bl _) | exact rd_var rfl (by assumption) | (with_reducible apply rd_cat; (· assumption)) | (with_reducible apply rd_rep2; (· assumption)) | (with_reducible apply rd_rev; (· assumption)) | (with_reducible apply rd_to; (· assumption)) | (with_reducible apply rd_from; (· assumption)) | (with_reducible apply rd_tupOf; (· assumption)) | (with_reducible apply rd_lstOf; (· assumption)) | with_reducible apply rd_lenL | with_reducible apply rd_lenT | with_reducible apply rd_I0 | with_reducible apply rd_I | with_reducible apply rd_U | with_reducible apply rd_eqI | with_reducible apply rd_ixL | with_reducible apply rd_ixT | exact atI_hd _ _ | exact ‹atI _ _ = some _›)
local macro_rules | `(tactic| wtm_at "rdl") => `(tactic| first | decide | omega | wtm_at "sc" | (simp only [List.length_append, List.length_cons, List.length_nil, List.length_map, List.length_take, List.length_drop, List.length_reverse, cutTo]; omega))
local macro_rules | `(tactic| wtm_at "rd") => `(tactic| ((repeat' wtm_at "rd1"); (all_goals wtm_at "rdl")))
local macro_rules | `(tactic| wtm_at "nc") => `(tactic| repeat' (first | assumption | exact nca_nil | exact nc_non | exact nc_bl | exact nc_dic | exact nc_tup0 | exact nc_lst0 | (refine nc_strS (by decide) (by decide)) | (refine nc_int (by omega)) | (refine nc_big (by decide +kernel)) | refine nca_app ?_ ?_ | refine nca_cons ?_ ?_ | refine nca_take ?_ | refine nca_drop ?_ | refine nca_cutTo ?_ | refine nca_rev ?_ | refine nc_tup (by decide) ?_ | refine nc_lst (by decide) ?_ | refine nc_lst (Nat.le_trans (show _ ≤ 45 by wtm_at "rdl") (by decide)) ?_ | refine nc_tup (Nat.le_trans (show _ ≤ 45 by wtm_at "rdl") (by decide)) ?_))

section
variable {P : Program} {w : World} {K : PySem.W.Frag} {mg : Str → Option Value} {base : Heap}
/-! read_outline -/
def spx_read_outline (K : PySem.W.Frag) : Sp := fun vs H Q E => ∃ l : List Nat, vs = [Tx l] ∧ l.length ≤ 60000 ∧ l.count 10 ≤ 400 ∧ ((∃ ns, outO l = some ns ∧ ∀ (b : Addr) (xs : List V) (A : List Addr) (H' : Hp), Same H H' → H' b = some (.lst xs) → TrIs H' xs ns A → (b :: A).Nodup → (∀ x ∈ b :: A, H x = none) → Q (.ref b) H') ∨ (outO l = none ∧ ∀ H', Same H H' → E (.ref (He.ga K "NoNest")) none H'))
theorem okx_read_outline (T : Facts K mg) : CalX P w K mg base 1 "read_outline" (spx_read_outline K) := by
  refine calDX T.f_read_outline sc_read_outline (fun vs H Q E h => ?_) (fun f cdv A outer s H vs Q E hr h => ?_)
  · obtain ⟨l, rfl, hl, hc10, hv⟩ := h; rfl
  · obtain ⟨l, rfl, hl, hc10, hv⟩ := h
    refine ⟨_, (pss_cons (ps_set (i := 1) sc_read_outline.nd rfl (Or.inl rfl) (pe_lst (pa_cons (pe_lst pa_nil) pa_nil)))
       (pss_cons (ps_if (pt_cmpR op_eq (pv 0) (pe_strS (l := []) (by decide +kernel)) (nomark _))
       (pss_one (ps_ret (pe_ix ix_list (pv 1) pe_int (fun _ _ => rfl))))
       pss_nil)
       (pss_cons (ps_for (passes_of rfl) rfl (pi_list (pe_m1 PySem.F.slot_str_split PySem.F.type_str_split mt_splitT (pv 0) (pe_strS (l := [10]) (by decide +kernel)))) (pg_name (i := 2) sc_read_outline.nd rfl (Or.inl rfl))
       (pss_cons (ps_set (i := 3) sc_read_outline.nd rfl (Or.inl rfl) (pe_op op_sub (pe_callB call_lenT rfl T.b_len PySem.boot_len (pa_cons (pv 2) pa_nil)) pe_int))
       (pss_cons (ps_ifC (PW.pt (pw_or (pt_cmpR op_lt (pv 3) pe_int (nomark _)) (pw_or (pt_cmpR op_ge (pv 3) (pe_callB call_lenL rfl T.b_len PySem.boot_len (pa_cons (pv 1) pa_nil)) (nomark _)) (pw_or (pt_cmpR op_ge (pv 3) (C8.pe_gc rfl T.c_DEEPEST) (nomark _)) (pw_or1 (pt_cmpR op_ne (pe_slice sl_tx (pv 2) po_none (po_some (pv 3))) (pe_op op_mulT (pe_strS (l := [32]) (by decide +kernel)) (pv 3)) (nomark _)))))))
       (pss_one (ps_raise rfl (takes_of rfl rfl rfl rfl) (pmk_own PySem.F.excBase_ValueError T.z_NoNest.x T.g_NoNest T.z_NoNest.kp (raises_own T.z_NoNest.sb T.z_NoNest.ty) rfl)))
       pss_nil)
       (pss_cons (ps_set (i := 4) sc_read_outline.nd rfl (Or.inl rfl) (pe_ix ix_txt (pv 2) (pv 3) (fun _ _ => rfl)))
       (pss_cons (ps_set (i := 1) sc_read_outline.nd rfl (Or.inl rfl) (pe_slice sl_list (pv 1) po_none (po_some (pe_op op_add (pv 3) pe_int))))
       (pss_one (ps_if (pt_cmpR op_inT (pv 4) (C8.pe_gc rfl T.c_LETTERS) (by rfl))
       (pss_one (ps_expr (pe_bm PySem.F.plainAttrs_list PySem.F.slot_list_append PySem.F.type_list_append mt_append (pe_ix ix_list (pv 1) (pe_un un_neg pe_int) (fun _ _ => rfl)) (pa_cons (pv 4) pa_nil))))
       (pss_one (ps_if (pt_cmpR op_inT (pv 4) (C8.pe_gc rfl T.c_OPENING) (by rfl))
       (pss_cons (ps_set (i := 5) sc_read_outline.nd rfl (Or.inl rfl) (pe_lst pa_nil))
       (pss_cons (ps_expr (pe_bm PySem.F.plainAttrs_list PySem.F.slot_list_append PySem.F.type_list_append mt_append (pe_ix ix_list (pv 1) (pe_un un_neg pe_int) (fun _ _ => rfl)) (pa_cons (pe_tup (pa_cons (pv 4) (pa_cons (pv 5) pa_nil))) pa_nil)))
       (pss_one (ps_expr (pe_bm PySem.F.plainAttrs_list PySem.F.slot_list_append PySem.F.type_list_append mt_append (pv 1) (pa_cons (pv 5) pa_nil))))))
       (pss_one (ps_raise rfl (takes_of rfl rfl rfl rfl) (pmk_own PySem.F.excBase_ValueError T.z_NoNest.x T.g_NoNest T.z_NoNest.kp (raises_own T.z_NoNest.sb T.z_NoNest.ty) rfl))))))))))))
       (pss_one (ps_ret (pe_ix ix_list (pv 1) pe_int (fun _ _ => rfl))))))), ?_⟩
    rw [st_read_outline]
    have hbad : outO l = none → ∀ H', Same H H' → E (.ref (He.ga K "NoNest")) none H' := fun h H' s => by
      rcases hv with ⟨ns, h1, _⟩ | ⟨_, q⟩
      · rw [h] at h1; cases h1
      · exact q H' s
    have hgood : ∀ ns, outO l = some ns → ∀ (b : Addr) (xs : List V) (A : List Addr) (H' : Hp), Same H H' → H' b = some (.lst xs) → TrIs H' xs ns A → (b :: A).Nodup → (∀ x ∈ b :: A, H x = none) → Q (.ref b) H' := fun ns h => by
      rcases hv with ⟨ns', h1, q⟩ | ⟨h1, _⟩
      · rw [h] at h1
        have := Option.some.inj h1
        subst this
        exact q
      · rw [h] at h1; cases h1
    clear hv
    wtm_at "unf"
    wtm_at "gx"
    refine g_lst (by show 0 ≤ 100000; decide) fun r0 H1 nr0 s1 er0 => ?_
    refine g_lst (by show 1 ≤ 100000; decide) fun ar0 H2 nar0 s2 ear0 => ?_
    have har00 : H ar0 = none := s1.free nar0
    have hra0 : r0 ≠ ar0 := ne_new nar0 er0
    wtm_at "gx"
    refine g_test (fun h0 => ?_) (fun h0 => ?_)
    · have h0' : l = [] := Tx_inj.mp h0
      subst h0'
      wtm_at "gx"
      exact hgood [] rfl r0 [] [] H2 (s1.trans s2) (s2 _ _ er0) .nil (by simp) (by simpa using nr0)
    · have h0' : l ≠ [] := fun e => h0 (by rw [e])
      wtm_at "gx"
      refine g_splitT (by simp) (by decide) (by omega) fun la H3 nla s3 ela => ?_
      obtain ⟨lls, hlls⟩ : ∃ lls, TL.spl [10] 0 [] l = lls := ⟨_, rfl⟩
      have hcnt : lls.length ≤ 401 := by rw [← hlls, spl_cnt]; omega
      have hsz : ∀ x ∈ lls, x.length ≤ 60000 := fun x hx => by
        have := (spl_sub l [] x (by rw [hlls]; exact hx)).2
        simp at this
        omega
      rw [hlls] at ela
      have hla0 : H la = none := s1.free (s2.free nla)
      have hr0la : r0 ≠ la := ne_new nla (s2 _ _ er0)
      have har0la : ar0 ≠ la := ne_new nla ear0
      refine ⟨la, rfl, ⟨_, sq_of ela⟩, for_lst (lls.map Tx) (fun pre σ H' => ∃ (pls : List (List Nat)) (s : NSt) (b : Addr) (bs : List Addr) (ar : Addr) (y2 y3 y4 y5 : Option V), pre = pls.map Tx ∧ readO ([], []) pls = some s ∧ σ = [some (Tx l), some (V.ref ar), y2, y3, y4, y5] ∧ Bld (fun x => H x = none ∧ x ≠ ar ∧ x ≠ la) H' b bs s.1 s.2 ∧ H' ar = some (.lst (bs.reverse.map V.ref ++ [V.ref b])) ∧ H ar = none ∧ ar ≠ la ∧ Same H H' ∧ H' la = some (.lst (lls.map Tx)))
        ⟨[], ([], []), r0, [], ar0, _, _, _, _, rfl, rfl, rfl, Bld.start (s3 _ _ (s2 _ _ er0)) ⟨nr0, hra0, hr0la⟩, s3 _ _ ear0, har00, har0la, s1.trans (s2.trans s3), ela⟩ (fun pre post σ H' e hv => ?_) (fun pre x post σ H' e hv => ?_) (fun σ H' hv => ?_)⟩
      · obtain ⟨pls, s, b, bs, ar, y2, y3, y4, y5, ep, hr, rfl, B, ea, har, harla, sH, ela'⟩ := hv
        exact sq_of ela'
      · obtain ⟨pls, s, b, bs, ar, y2, y3, y4, y5, ep, hr, rfl, B, ea, har, harla, sH, ela'⟩ := hv
        have e' : lls.map Tx = pls.map Tx ++ x :: post := by rw [e, ep]
        obtain ⟨q1, q2, eq, h1q, h2q⟩ := List.map_eq_append_iff.mp e'
        have h1q' : q1 = pls := (List.map_inj_right (f := Tx) fun a b h => Tx_inj.mp h).mp h1q
        obtain ⟨ln, rest, hq2, hx, hrest⟩ := List.map_eq_cons_iff.mp h2q
        rw [h1q', hq2] at eq
        subst hx
        have hlen := hsz ln (by rw [eq]; simp)
        have hpl : pls.length < 401 := by rw [eq] at hcnt; simp at hcnt; omega
        have hszS := readO_sz _ _ _ hr
        have hfr := sz_fr s
        have h00 : szS ([], []) = 0 := rfl
        have hbl : bs.length = s.1.length := by
          obtain ⟨_, _, _, _, _, h3, _, _⟩ := B.ex
          exact Ctx.len h3
        have hnone : lineO s.1.length ln = none → ∀ H', Same H H' → E (.ref (He.ga K "NoNest")) none H' := fun h => hbad (outO_bad h0' (hlls.trans eq) hr h)
        wtm_at "unf"
        wtm_at "gx"
        refine g_ifC (b := !decide (1 ≤ ln.length ∧ ln.length ≤ s.1.length + 1 ∧ ln.length ≤ 60 ∧ ln.take (ln.length - 1) = blk (ln.length - 1))) (fun Q' q' => ?_) (fun h => ?_) (fun h => ?_)
        · wtm_at "unf"
          wtm_at "gx"
          refine g_test (fun h1 => ?_) (fun h1 => ?_)
          · rw [decide_eq_false (by omega)] at q'
            exact q'
          wtm_at "gx"
          rw [List.length_append, List.length_map, List.length_reverse, hbl]
          refine g_test (fun h2 => ?_) (fun h2 => ?_)
          · have h2 : s.1.length + 1 ≤ ln.length - 1 := by simp at h2; omega
            rw [decide_eq_false (by omega)] at q'
            exact q'
          have h2 : ln.length - 1 < s.1.length + 1 := by simp at h2; omega
          wtm_at "gx"
          refine g_test (fun h3 => ?_) (fun h3 => ?_)
          · rw [decide_eq_false (by omega)] at q'
            exact q'
          wtm_at "gx"
          rw [show ((ln.length : Nat) : Int) - 1 = ((ln.length - 1 : Nat) : Int) by omega]
          refine g_slTo (by omega) (by omega) ?_
          rw [Int.toNat_natCast]
          wtm_at "gx"
          refine g_mulT (n := ln.length - 1) (by omega) (by simp; omega) ?_
          refine ⟨rfl, ?_⟩
          refine ⟨_, rfl, ?_⟩
          have hde : decide (Tx (ln.take (ln.length - 1)) = Tx (repT (ln.length - 1) [32])) = decide (1 ≤ ln.length ∧ ln.length ≤ s.1.length + 1 ∧ ln.length ≤ 60 ∧ ln.take (ln.length - 1) = blk (ln.length - 1)) := decide_eq_decide.mpr ⟨fun h => ⟨by omega, by omega, by omega, Tx_inj.mp h⟩, fun h => by rw [h.2.2.2]; rfl⟩
          rw [hde]
          exact q'
        · wtm_at "unf"
          exact hnone (lineO_no (of_decide_eq_false (by cases hd : decide (1 ≤ ln.length ∧ ln.length ≤ s.1.length + 1 ∧ ln.length ≤ 60 ∧ ln.take (ln.length - 1) = blk (ln.length - 1)) with | false => rfl | true => rw [hd] at h; cases h))) _ sH
        · have hg := of_decide_eq_true (show decide (1 ≤ ln.length ∧ ln.length ≤ s.1.length + 1 ∧ ln.length ≤ 60 ∧ ln.take (ln.length - 1) = blk (ln.length - 1)) = true by simpa using h)
          obtain ⟨g1, g2, g3, g4⟩ := hg
          obtain ⟨c, hat⟩ : ∃ c, ln[ln.length - 1]? = some c := ⟨_, List.getElem?_eq_getElem (by omega)⟩
          have hlast : ln.getLast? = some c := by rw [List.getLast?_eq_getElem?]; exact hat
          have hk : s.1.length + 1 - ln.length ≤ s.1.length := by omega
          obtain ⟨b', bs', hdr, B'⟩ := Bld.clsS _ s b bs B hk
          have hcut := drop_rev hdr
          have hcl := cls_len _ s hk
          have hsc := sz_cls _ s hk
          generalize hs' : clsS (s.1.length + 1 - ln.length) s = s' at B' hcl hsc
          wtm_at "unf"
          wtm_at "gx"
          rw [show ((ln.length : Nat) : Int) - 1 = ((ln.length - 1 : Nat) : Int) by omega]
          refine g_ixT (by omega) (atI_of hat) ?_
          wtm_at "gx"
          refine g_slL (sq_of ea) fun ar2 H4 nar2 s4 ear2 => ?_
          rw [show ((ln.length - 1 : Nat) : Int) + 1 = ((ln.length : Nat) : Int) by omega, cut_to] at ear2
          rw [show (b :: bs).length - (s.1.length + 1 - ln.length) = ln.length by rw [List.length_cons]; omega] at hcut
          rw [hcut] at ear2
          have har2 : H ar2 = none := sH.free nar2
          have hlane : ar2 ≠ la := Ne.symm (ne_new nar2 ela')
          have ela4 := s4 _ _ ela'
          have B4 : Bld (fun x => H x = none ∧ x ≠ ar2 ∧ x ≠ la) H4 b' bs' s'.1 s'.2 := (Bld.renew (N' := fun x => H x = none ∧ x ≠ ar2 ∧ x ≠ la) B' fun x ys hN hx => ⟨hN.1, ne_new nar2 hx, hN.2.2⟩).same s4
          have sH4 := sH.trans s4
          obtain ⟨xs, hb, hxl, ⟨hbn, hba, hbla⟩, hbl2⟩ := B4.cur
          have hfr2 := sz_fr s'
          have hsnoc : ∀ hc : c ∈ LET ∨ c ∈ OPN, readO ([], []) (pls ++ [ln]) = some (nstep s' c) := fun hc => by
            rw [← hs']
            exact readO_snoc hr (lineO_ok hlast ⟨g2, g3, g4⟩ hc)
          wtm_at "gx"
          refine g_test (fun hlt => ?_) (fun hlt => ?_)
          · have h1 := let_opn c hlt
            have hcn : c ∉ CLO := not_clo (.inl hlt)
            wtm_at "gx"
            refine g_ixL (sq_of ear2) (atI_last1 _ _) ?_
            wtm_at "gx"
            refine g_append1 hb (by omega) fun H5 b5 e5 => ?_
            have en : nstep s' c = (s'.1, s'.2 ++ [.let_ c]) := by unfold nstep; rw [if_neg hcn, if_neg h1]
            refine ⟨pls ++ [ln], nstep s' c, b', bs', ar2, _, _, _, _, by rw [List.map_append, ← ep]; rfl, hsnoc (.inl hlt), rfl, ?_, b5 _ _ (Ne.symm hba) ear2, har2, hlane, Same.b0 b5 sH4 hbn, b5 _ _ (Ne.symm hbla) ela4⟩
            rw [en]
            exact B4.letter hb b5 e5
          · wtm_at "gx"
            refine g_test (fun h1 => ?_) (fun h1 => ?_)
            · have hcn : c ∉ CLO := not_clo (.inr h1)
              wtm_at "gx"
              refine g_lst (by show 0 ≤ 100000; decide) fun ia H5 nia s5 eia => ?_
              have ea3 := s5 _ _ ear2
              have hb3 := s5 _ _ hb
              have ni0 : H ia = none := sH4.free nia
              have hia : ia ≠ ar2 := Ne.symm (ne_new nia ear2)
              have hiala : ia ≠ la := Ne.symm (ne_new nia ela4)
              wtm_at "gx"
              refine g_ixL (sq_of ea3) (atI_last1 _ _) ?_
              wtm_at "gx"
              refine g_tup (by show 2 ≤ 100000; decide) fun t H6 nt s6 et => ?_
              have ea4 := s6 _ _ ea3
              have hb4 := s6 _ _ hb3
              refine g_append1 hb4 (by omega) fun H7 b7 e7 => ?_
              have ea5 := b7 _ _ (Ne.symm hba) ea4
              wtm_at "gx"
              refine g_append1 ea5 (by simp; omega) fun H8 b8 e8 => ?_
              have B5 := B4.open_ (s5.trans s6) hb4 b7 (s6 _ _ eia) et nia ⟨ni0, hia, hiala⟩ e7
              have en : nstep s' c = ((s'.2, c) :: s'.1, []) := by unfold nstep; rw [if_neg hcn, if_pos h1]
              refine ⟨pls ++ [ln], nstep s' c, ia, b' :: bs', ar2, _, _, _, _, by rw [List.map_append, ← ep]; rfl, hsnoc (.inr h1), rfl, ?_, ?_, har2, hlane, Same.b0 b8 (Same.b0 b7 (sH4.trans (s5.trans s6)) hbn) har2, b8 _ _ (Ne.symm hlane) (b7 _ _ (Ne.symm hbla) (s6 _ _ (s5 _ _ ela4)))⟩
              · rw [en]
                exact B5.but b8 ea5 (fun hn => hn.2.1 rfl)
              · rw [e8]
                simp
            · wtm_at "gx"
              exact hnone (lineO_sg hlast (fun h => h.elim hlt h1)) _ sH4
      · obtain ⟨pls, s, b, bs, ar, y2, y3, y4, y5, ep, hr, rfl, B, ea, har, harla, sH, ela'⟩ := hv
        have hall : lls = pls := (List.map_inj_right (f := Tx) fun a b h => Tx_inj.mp h).mp ep
        subst hall
        obtain ⟨b', bs', hdr, B'⟩ := Bld.clsS _ s b bs B (Nat.le_refl _)
        have h7 : (clsS s.1.length s).1 = [] := List.eq_nil_of_length_eq_zero (by rw [cls_len _ _ (Nat.le_refl _), Nat.sub_self])
        rw [h7] at B'
        obtain ⟨xs, A1, A, h1, h2, h3, h4, h5⟩ := B'.ex
        cases h3
        rw [List.append_nil] at h4 h5
        wtm_at "unf"
        wtm_at "gx"
        refine g_ixL (sq_of ea) (atI_of (k := 0) (last_at hdr)) ?_
        exact hgood _ (outO_end h0' (by rw [hlls]; exact hr)) b' xs A1 H' sH h1 h2 h4 (fun x hx => (h5 x hx).1)
/-! _law_read -/
def sp_law_read : Sp := fun vs H Q _ => ∃ l : List Nat, vs = [Tx l] ∧ l.length ≤ 60000 ∧ l.count 10 ≤ 400 ∧ (∀ ns, outO l = some ns → ∀ (b : Addr) (xs : List V) (A : List Addr) (H' : Hp), Same H H' → H' b = some (.lst xs) → TrIs H' xs ns A → (b :: A).Nodup → (∀ x ∈ b :: A, H x = none) → Q (.ref b) H') ∧ (outO l = none → ∀ H', Same H H' → Q .non H')
theorem ok_law_read (T : Facts K mg) : C8.Cal P w K mg base 1 "_law_read" sp_law_read [] := by
  refine calD T.f_law_read sc_law_read (fun vs H Q E h => ?_) (fun f cdv A outer s H vs Q E hr h => ?_)
  · obtain ⟨l, rfl, hl, hc10, hgood, hbad⟩ := h; rfl
  · obtain ⟨l, rfl, hl, hc10, hgood, hbad⟩ := h
    refine ⟨_, (pss_cons (ps_set (i := 1) sc_law_read.nd rfl (Or.inl rfl) (pe_lst (pa_cons (pe_lst pa_nil) pa_nil)))
       (pss_cons (ps_if (pt_cmpR op_eq (pv 0) (pe_strS (l := []) (by decide +kernel)) (nomark _))
       (pss_one (ps_ret (pe_lst pa_nil)))
       pss_nil)
       (pss_cons (ps_for PassesOwn.never rfl (pi_list (pe_m1 PySem.F.slot_str_split PySem.F.type_str_split mt_splitT (pv 0) (pe_strS (l := [10]) (by decide +kernel)))) (pg_name (i := 2) sc_law_read.nd rfl (Or.inl rfl))
       (pss_cons (ps_set (i := 3) sc_law_read.nd rfl (Or.inl rfl) (pe_slice sl_tx (pv 2) (po_some (pe_op op_sub (pe_callB call_lenT rfl T.b_len PySem.boot_len (pa_cons (pv 2) pa_nil)) pe_int)) po_none))
       (pss_cons (ps_set (i := 4) sc_law_read.nd rfl (Or.inl rfl) (pe_op op_sub (pe_callB call_lenT rfl T.b_len PySem.boot_len (pa_cons (pv 2) pa_nil)) pe_int))
       (pss_cons (ps_ifC (PW.pt (pw_or (pt_cmpR op_eq (pv 3) (pe_strS (l := []) (by decide +kernel)) (nomark _)) (pw_or (pt_cmpR op_notInT (pv 3) (pe_strS (l := [97, 98, 99, 100, 101, 102, 103, 104, 105, 106, 107, 108, 109, 110, 111, 112, 113, 114, 115, 116, 117, 118, 119, 120, 121, 122, 40, 60, 91, 123]) (by decide +kernel)) (by rfl)) (pw_or1 (pt_cmpR op_ne (pv 2) (pe_op op_addT (pe_op op_mulT (pe_strS (l := [32]) (by decide +kernel)) (pv 4)) (pv 3)) (nomark _))))))
       (pss_one (ps_ret pe_non))
       pss_nil)
       (pss_cons (ps_ifC (PW.pt (pw_or (pt_cmpR op_gt (pv 4) (pe_op op_sub (pe_callB call_lenL rfl T.b_len PySem.boot_len (pa_cons (pv 1) pa_nil)) pe_int) (nomark _)) (pw_or1 (pt_cmpR op_gt (pv 4) pe_int (nomark _)))))
       (pss_one (ps_ret pe_non))
       pss_nil)
       (pss_cons (ps_while PassesOwn.never (pt_cmpR op_gt (pe_callB call_lenL rfl T.b_len PySem.boot_len (pa_cons (pv 1) pa_nil)) (pe_op op_add (pv 4) pe_int) (nomark _))
       (pss_one (ps_expr (pe_bm0 PySem.F.plainAttrs_list PySem.F.slot_list_pop PySem.F.type_list_pop mt_pop (pv 1)))))
       (pss_one (ps_if (pt_cmpR op_inT (pv 3) (pe_strS (l := OPN) (by decide +kernel)) (by rfl))
       (pss_cons (ps_set (i := 5) sc_law_read.nd rfl (Or.inl rfl) (pe_lst pa_nil))
       (pss_cons (ps_expr (pe_bm PySem.F.plainAttrs_list PySem.F.slot_list_append PySem.F.type_list_append mt_append (pe_ix ix_list (pv 1) (pv 4) (fun _ _ => rfl)) (pa_cons (pe_tup (pa_cons (pv 3) (pa_cons (pv 5) pa_nil))) pa_nil)))
       (pss_one (ps_expr (pe_bm PySem.F.plainAttrs_list PySem.F.slot_list_append PySem.F.type_list_append mt_append (pv 1) (pa_cons (pv 5) pa_nil))))))
       (pss_one (ps_expr (pe_bm PySem.F.plainAttrs_list PySem.F.slot_list_append PySem.F.type_list_append mt_append (pe_ix ix_list (pv 1) (pv 4) (fun _ _ => rfl)) (pa_cons (pv 3) pa_nil))))))))))))
       (pss_one (ps_ret (pe_ix ix_list (pv 1) pe_int (fun _ _ => rfl))))))), ?_⟩
    rw [st_law_read]
    wtm_at "unf"
    wtm_at "gx"
    refine g_lst (by show 0 ≤ 100000; decide) fun r0 H1 nr0 s1 er0 => ?_
    refine g_lst (by show 1 ≤ 100000; decide) fun ar H2 nar0 s2 ear0 => ?_
    have har : H ar = none := s1.free nar0
    have hra0 : r0 ≠ ar := ne_new nar0 er0
    wtm_at "gx"
    refine g_test (fun h0 => ?_) (fun h0 => ?_)
    · have h0' : l = [] := Tx_inj.mp h0
      subst h0'
      refine g_lst (by show 0 ≤ 100000; decide) fun r1 H3 nr1 s3 er1 => ?_
      exact hgood [] rfl r1 [] [] H3 (s1.trans (s2.trans s3)) er1 .nil (by simp) (by simpa using (s1.trans s2).free nr1)
    · have h0' : l ≠ [] := fun e => h0 (by rw [e])
      wtm_at "gx"
      refine g_splitT (by simp) (by decide) (by omega) fun la H3 nla s3 ela => ?_
      obtain ⟨lls, hlls⟩ : ∃ lls, TL.spl [10] 0 [] l = lls := ⟨_, rfl⟩
      have hcnt : lls.length ≤ 401 := by rw [← hlls, spl_cnt]; omega
      have hsz : ∀ x ∈ lls, x.length ≤ 60000 := fun x hx => by
        have := (spl_sub l [] x (by rw [hlls]; exact hx)).2
        simp at this
        omega
      rw [hlls] at ela
      have hla0 : H la = none := s1.free (s2.free nla)
      have hr0la : r0 ≠ la := ne_new nla (s2 _ _ er0)
      have harla : ar ≠ la := ne_new nla ear0
      refine ⟨la, rfl, ⟨_, sq_of ela⟩, for_lst (lls.map Tx) (fun pre σ H' => ∃ (pls : List (List Nat)) (s : NSt) (b : Addr) (bs : List Addr) (y2 y3 y4 y5 : Option V), pre = pls.map Tx ∧ readO ([], []) pls = some s ∧ σ = [some (Tx l), some (V.ref ar), y2, y3, y4, y5] ∧ Bld (fun x => H x = none ∧ x ≠ ar ∧ x ≠ la) H' b bs s.1 s.2 ∧ H' ar = some (.lst (bs.reverse.map V.ref ++ [V.ref b])) ∧ Same H H' ∧ H' la = some (.lst (lls.map Tx)))
        ⟨[], ([], []), r0, [], _, _, _, _, rfl, rfl, rfl, Bld.start (s3 _ _ (s2 _ _ er0)) ⟨nr0, hra0, hr0la⟩, s3 _ _ ear0, s1.trans (s2.trans s3), ela⟩ (fun pre post σ H' e hv => ?_) (fun pre x post σ H' e hv => ?_) (fun σ H' hv => ?_)⟩
      · obtain ⟨pls, s, b, bs, y2, y3, y4, y5, ep, hr, rfl, B, ea, sH, ela'⟩ := hv
        exact sq_of ela'
      · obtain ⟨pls, s, b, bs, y2, y3, y4, y5, ep, hr, rfl, B, ea, sH, ela'⟩ := hv
        have e' : lls.map Tx = pls.map Tx ++ x :: post := by rw [e, ep]
        obtain ⟨q1, q2, eq, h1q, h2q⟩ := List.map_eq_append_iff.mp e'
        have h1q' : q1 = pls := (List.map_inj_right (f := Tx) fun a b h => Tx_inj.mp h).mp h1q
        obtain ⟨ln, rest, hq2, hx, hrest⟩ := List.map_eq_cons_iff.mp h2q
        rw [h1q', hq2] at eq
        subst hx
        have hlen := hsz ln (by rw [eq]; simp)
        have hpl : pls.length < 401 := by rw [eq] at hcnt; simp at hcnt; omega
        have hszS := readO_sz _ _ _ hr
        have hfr := sz_fr s
        have h00 : szS ([], []) = 0 := rfl
        have hbl : bs.length = s.1.length := by
          obtain ⟨_, _, _, _, _, h3, _, _⟩ := B.ex
          exact Ctx.len h3
        have hnone : lineO s.1.length ln = none → ∀ H', Same H H' → Q .non H' := fun h => hbad (outO_bad h0' (hlls.trans eq) hr h)
        wtm_at "unf"
        wtm_at "gx"
        cases hlast : ln.getLast? with
        | none =>
          have hln : ln = [] := List.getLast?_eq_none_iff.mp hlast
          subst hln
          refine ⟨[], rfl, by simp, ?_⟩
          rw [show ((([] : List Nat).length : Nat) : Int) - 1 = -1 from rfl, slice_none]
          wtm_at "gx"
          refine g_ifC (b := true) (fun Q' q' => ?_) (fun _ => ?_) (fun h => by cases h)
          · wtm_at "unf"
            wtm_at "gx"
            exact q'
          · wtm_at "unf"
            exact hnone rfl _ sH
        | some c =>
          have hlen1 : 1 ≤ ln.length := List.length_pos_iff.mpr fun e => by rw [e] at hlast; cases hlast
          obtain ⟨hdrop, hcutln⟩ := last_cut hlast
          obtain ⟨k, hk⟩ : ∃ k, ln.length = k + 1 := ⟨ln.length - 1, by omega⟩
          have hat := lineO_at (n := s.1.length) hlast
          rw [show ((ln.length : Nat) : Int) - 1 = (k : Int) by omega]
          refine g_slFrom (by omega) (by omega) ?_
          rw [Int.toNat_natCast, show ln.drop k = [c] by rw [← hdrop, hk]; rfl]
          wtm_at "gx"
          rw [show ((ln.length : Nat) : Int) - 1 = (k : Int) by omega]
          rw [hk, show k + 1 - 1 = k from rfl] at hat hcutln
          refine g_ifC (b := !decide (ln.take k = blk k ∧ (c ∈ LET ∨ c ∈ OPN))) (fun Q' q' => ?_) (fun h => ?_) (fun h => ?_)
          · wtm_at "unf"
            wtm_at "gx"
            have hmem : ∀ {l2 : List Nat}, l2 = LET ++ OPN → (c ∈ l2 ↔ (c ∈ LET ∨ c ∈ OPN)) := fun h => by rw [h, List.mem_append]
            refine g_testN (fun hne => ?_) (fun hin => ?_)
            · rw [decide_eq_false (fun h => hne ((hmem rfl).mpr h.2))] at q'
              exact q'
            have hin' : c ∈ LET ∨ c ∈ OPN := (hmem rfl).mp hin
            wtm_at "gx"
            refine g_mulT (n := k) (by omega) (by simp; omega) ?_
            wtm_at "gx"
            refine g_addT (by
              have := blk_len k
              unfold blk at this
              rw [this]
              show k + 1 ≤ 100000
              omega) ?_
            refine ⟨rfl, _, rfl, ?_⟩
            have hde : decide (Tx ln = Tx (repT k [32] ++ [c])) = decide (ln.take k = blk k ∧ (c ∈ LET ∨ c ∈ OPN)) := decide_eq_decide.mpr ⟨fun h => by
              have h := Tx_inj.mp h
              refine ⟨?_, hin'⟩
              rw [h, List.take_left' (by have := blk_len k; unfold blk at this; exact this)]
              rfl, fun h => by
              rw [hcutln, h.1]
              rfl⟩
            rw [hde]
            exact q'
          · have hno : ¬ (ln.take k = blk k ∧ (c ∈ LET ∨ c ∈ OPN)) := fun hh => by rw [decide_eq_true hh] at h; cases h
            wtm_at "unf"
            exact hnone (by rw [hat, if_neg (fun q => hno ⟨q.2.2.1, q.2.2.2⟩)]) _ sH
          · have hyes : ln.take k = blk k ∧ (c ∈ LET ∨ c ∈ OPN) := by
              by_cases hh : ln.take k = blk k ∧ (c ∈ LET ∨ c ∈ OPN)
              · exact hh
              · rw [decide_eq_false hh] at h; cases h
            wtm_at "unf"
            refine g_ifC (b := !decide (k ≤ s.1.length ∧ k ≤ 59)) (fun Q' q' => ?_) (fun h => ?_) (fun h => ?_)
            · wtm_at "unf"
              wtm_at "gx"
              rw [List.length_append, List.length_map, List.length_reverse, hbl]
              refine g_test (fun h2 => ?_) (fun h2 => ?_)
              · have h2 : ¬ k ≤ s.1.length := by simp at h2; omega
                rw [decide_eq_false (fun q => h2 q.1)] at q'
                exact q'
              have h2 : k ≤ s.1.length := by simp at h2; omega
              wtm_at "gx"
              refine ⟨_, rfl, ?_⟩
              have hde : decide ((59 : Int) < (k : Int)) = !decide (k ≤ s.1.length ∧ k ≤ 59) := by
                by_cases h3 : k ≤ 59
                · rw [decide_eq_false (by omega), decide_eq_true ⟨h2, h3⟩]; rfl
                · rw [decide_eq_true (by omega), decide_eq_false (fun q => h3 q.2)]; rfl
              rw [hde]
              exact q'
            · have hno : ¬ (k ≤ s.1.length ∧ k ≤ 59) := fun hh => by rw [decide_eq_true hh] at h; cases h
              wtm_at "unf"
              exact hnone (by rw [hat, if_neg (fun q => hno ⟨by omega, by omega⟩)]) _ sH
            · have hyes2 : k ≤ s.1.length ∧ k ≤ 59 := by
                by_cases hh : k ≤ s.1.length ∧ k ≤ 59
                · exact hh
                · rw [decide_eq_false hh] at h; cases h
              obtain ⟨g2, g3⟩ := hyes2
              have hat := hat.trans (if_pos ⟨by omega, by omega, hyes.1, hyes.2⟩)
              have hkk : s.1.length + 1 - ln.length ≤ s.1.length := by omega
              obtain ⟨b', bs', hdr, B'⟩ := Bld.clsS _ s b bs B hkk
              have hcut := drop_rev hdr
              have hcl := cls_len _ s hkk
              have hsc := sz_cls _ s hkk
              have hsnoc : readO ([], []) (pls ++ [ln]) = some (nstep (clsS (s.1.length + 1 - ln.length) s) c) := readO_snoc hr hat
              generalize hs' : clsS (s.1.length + 1 - ln.length) s = s' at B' hcl hsc hsnoc
              rw [show (b :: bs).length - (s.1.length + 1 - ln.length) = k + 1 by rw [List.length_cons]; omega] at hcut
              obtain ⟨full, hfull⟩ : ∃ full, bs.reverse.map V.ref ++ [V.ref b] = full := ⟨_, rfl⟩
              have hfl : full.length = s.1.length + 1 := by rw [← hfull]; simp [hbl]
              rw [hfull] at hcut ea
              wtm_at "unf"
              refine g_while (fun m σ H'' => σ = [some (Tx l), some (V.ref ar), some (Tx ln), some (Tx [c]), some (V.int (k : Nat)), y5] ∧ H'' ar = some (.lst (full.take (k + 1 + m))) ∧ k + 1 + m ≤ full.length ∧ But ar H' H'') (full.length - (k + 1)) ⟨rfl, by rw [show k + 1 + (full.length - (k + 1)) = full.length by omega, List.take_length]; exact ea, by omega, But.refl⟩ ?_
              rintro m σ H4 ⟨rfl, ea4, hm, b4⟩
              wtm_at "unf"
              wtm_at "gx"
              rw [List.length_take, Nat.min_eq_left hm]
              refine g_test (fun hw => ?_) (fun hw => ?_)
              · refine g_whb ?_
                obtain ⟨m', rfl⟩ : ∃ m', m = m' + 1 := ⟨m - 1, by omega⟩
                have hx : full[k + 1 + m']? = some full[k + 1 + m'] := List.getElem?_eq_getElem (by omega)
                have htk : full.take (k + 1 + (m' + 1)) = full.take (k + 1 + m') ++ [full[k + 1 + m']] := by
                  rw [show k + 1 + (m' + 1) = k + 1 + m' + 1 by omega]
                  exact (cut_at hx).1
                rw [htk] at ea4
                wtm_at "unf"
                wtm_at "gx"
                refine (g_pop (K := K) ea4 fun H5 b5 e5 => ?_).2
                exact ⟨m', by omega, e5, by omega, But.tr b5 b4⟩
              · have hm0 : m = 0 := by omega
                subst hm0
                rw [Nat.add_zero, hcut] at ea4
                have B4 : Bld (fun x => H x = none ∧ x ≠ ar ∧ x ≠ la) H4 b' bs' s'.1 s'.2 := B'.but b4 ea (fun hn => hn.2.1 rfl)
                have sH4 : Same H H4 := Same.b0 b4 sH har
                have ela4 := b4 _ _ (Ne.symm harla) ela'
                obtain ⟨xs, hb, hxl, ⟨hbn, hba, hbla⟩, hbl2⟩ := B4.cur
                have hfr2 := sz_fr s'
                have hix : (bs'.reverse.map V.ref ++ [V.ref b'])[k]? = some (V.ref b') := by
                  have hkb : bs'.length = k := by rw [hbl2, hcl]; omega
                  rw [List.getElem?_append_right (by simp; omega), show k - (bs'.reverse.map V.ref).length = 0 by simp; omega]
                  rfl
                wtm_at "unf"
                wtm_at "gx"
                refine g_test (fun h1 => ?_) (fun h1 => ?_)
                · have hcn : c ∉ CLO := not_clo (.inr h1)
                  wtm_at "gx"
                  refine g_lst (by show 0 ≤ 100000; decide) fun ia H5 nia s5 eia => ?_
                  have ea3 := s5 _ _ ea4
                  have hb3 := s5 _ _ hb
                  have ni0 : H ia = none := sH4.free nia
                  have hia : ia ≠ ar := Ne.symm (ne_new nia ea4)
                  have hiala : ia ≠ la := Ne.symm (ne_new nia ela4)
                  wtm_at "gx"
                  refine g_ixLn k (sq_of ea3) rfl hix ?_
                  refine ⟨g_tyL (sq_of hb3), ?_⟩
                  wtm_at "gx"
                  refine g_tup (by show 2 ≤ 100000; decide) fun t H6 nt s6 et => ?_
                  have ea5 := s6 _ _ ea3
                  have hb4 := s6 _ _ hb3
                  refine g_append1 hb4 (by omega) fun H7 b7 e7 => ?_
                  have ea6 := b7 _ _ (Ne.symm hba) ea5
                  wtm_at "gx"
                  refine g_append1 ea6 (by simp; omega) fun H8 b8 e8 => ?_
                  have B5 := B4.open_ (s5.trans s6) hb4 b7 (s6 _ _ eia) et nia ⟨ni0, hia, hiala⟩ e7
                  have en : nstep s' c = ((s'.2, c) :: s'.1, []) := by unfold nstep; rw [if_neg hcn, if_pos h1]
                  refine ⟨pls ++ [ln], nstep s' c, ia, b' :: bs', _, _, _, _, by rw [List.map_append, ← ep]; rfl, hsnoc, rfl, ?_, ?_, Same.b0 b8 (Same.b0 b7 (sH4.trans (s5.trans s6)) hbn) har, b8 _ _ (Ne.symm harla) (b7 _ _ (Ne.symm hbla) (s6 _ _ (s5 _ _ ela4)))⟩
                  · rw [en]
                    exact B5.but b8 ea6 (fun hn => hn.2.1 rfl)
                  · rw [e8]
                    simp
                · have hlt : c ∈ LET := hyes.2.resolve_right h1
                  have hcn : c ∉ CLO := not_clo (.inl hlt)
                  wtm_at "gx"
                  refine g_ixLn k (sq_of ea4) rfl hix ?_
                  refine ⟨g_tyL (sq_of hb), ?_⟩
                  wtm_at "gx"
                  refine g_append1 hb (by omega) fun H5 b5 e5 => ?_
                  have en : nstep s' c = (s'.1, s'.2 ++ [.let_ c]) := by unfold nstep; rw [if_neg hcn, if_neg h1]
                  refine ⟨pls ++ [ln], nstep s' c, b', bs', _, _, _, _, by rw [List.map_append, ← ep]; rfl, hsnoc, rfl, ?_, b5 _ _ (Ne.symm hba) ea4, Same.b0 b5 sH4 hbn, b5 _ _ (Ne.symm hbla) ela4⟩
                  rw [en]
                  exact B4.letter hb b5 e5
      · obtain ⟨pls, s, b, bs, y2, y3, y4, y5, ep, hr, rfl, B, ea, sH, ela'⟩ := hv
        have hall : lls = pls := (List.map_inj_right (f := Tx) fun a b h => Tx_inj.mp h).mp ep
        subst hall
        obtain ⟨b', bs', hdr, B'⟩ := Bld.clsS _ s b bs B (Nat.le_refl _)
        have h7 : (clsS s.1.length s).1 = [] := List.eq_nil_of_length_eq_zero (by rw [cls_len _ _ (Nat.le_refl _), Nat.sub_self])
        rw [h7] at B'
        obtain ⟨xs, A1, A, h1, h2, h3, h4, h5⟩ := B'.ex
        cases h3
        rw [List.append_nil] at h4 h5
        wtm_at "unf"
        wtm_at "gx"
        refine g_ixL (sq_of ea) (atI_of (k := 0) (last_at hdr)) ?_
        exact hgood _ (outO_end h0' (by rw [hlls]; exact hr)) b' xs A1 H' sH h1 h2 h4 (fun x hx => (h5 x hx).1)
end
end K11

set_option maxHeartbeats 4000000
namespace K11
open PySem PySem.Spec PyProof.Rows L2 SX Ly
local macro_rules | `(tactic| wtm_at "unf") => `(tactic| (try simp only [tMetX, tOwnX, tChain, tSeq, tNext, tBreak, tCont, tDrop, tRet, tRetN, tIfS, tAsg, tAug, tC, tOp, tUn, tNil, tCons, tOwn, tCB, tTest, tB, tAnd, tOr, tNot, tAndV, tOrV, tNotV, tIf, gName, gSub, tBM, tBM0, tM0, tM1, tSl, tPart_eq, tNoPart, tLst_eq, tTup_eq, tRevL_eq, tReplT, tRevS, tDGet_eq, sDPut_eq, tDNewT_eq, tMet, tMak, tFld_eq, sFld_eq, C8.tCut, wipe, tYes, gTup, gCons, gNil, List.set_cons_zero, List.set_cons_succ, if_true, if_false, Bool.false_eq_true, Bool.not_true, Bool.not_false, true_and, reduceIte, cx_K, tFor_eq, tLc_eq, iStr, iList, iTup, iRng1, iRng2, iRng3, iEnum, iZip, tLstRg, tRg1, gLst, RZ.iZipA, iEnumS, iZipS, tDNewK_eq, tDGet2, tDIn, tDNotIn, iKd]))
local macro_rules | `(tactic| wtm_at "unfA") => `(tactic| (try simp only [tMetX, tOwnX, tChain, tSeq, tNext, tBreak, tCont, tDrop, tRet, tRetN, tIfS, tAsg, tAug, tC, tOp, tUn, tNil, tCons, tOwn, tCB, tTest, tB, tAnd, tOr, tNot, tIf, gName, gSub, tBM, tBM0, tM0, tM1, tSl, tPart_eq, tNoPart, tLst_eq, tTup_eq, tRevL_eq, tReplT, tRevS, tDGet_eq, sDPut_eq, tDNewT_eq, tMet, tMak, tFld_eq, sFld_eq, C8.tCut, wipe, tYes, gTup, gCons, gNil, List.set_cons_zero, List.set_cons_succ, if_true, if_false, Bool.false_eq_true, Bool.not_true, Bool.not_false, true_and, reduceIte, cx_K, tFor_eq, tLc_eq, iStr, iList, iTup, iRng1, iRng2, iRng3, iEnum, iZip, tLstRg, tRg1, gLst, RZ.iZipA, iEnumS, iZipS, tDNewK_eq, tDGet2, tDIn, tDNotIn, iKd]))
local macro_rules | `(tactic| wtm_at "ne") => `(tactic| first | assumption | (apply Ne.symm; assumption) | (apply ne_new; (· assumption); (· wtm_at "lk")) | (apply Ne.symm; apply ne_new; (· assumption); (· wtm_at "lk")))
local macro_rules | `(tactic| wtm_at "lk") => `(tactic| first | assumption | exact upd_same | (apply Same.get; (· assumption); (· wtm_at "lk")) | (apply But.get; (· assumption); (· wtm_at "ne"); (· wtm_at "lk")))
local macro_rules | `(tactic| wtm_at "sq") => `(tactic| first | assumption | (apply sq_of; wtm_at "lk") | (apply Same.seq; (· assumption); (· wtm_at "sq")) | (apply But.sq; (· assumption); (· wtm_at "ne"); (· wtm_at "sq")))
local macro_rules | `(tactic| wtm_at "fr") => `(tactic| first | assumption | (apply Same.fr; (· assumption); (· wtm_at "sm")) | (apply But.fr; (· assumption); (· wtm_at "sm"); (· wtm_at "ne")))
local macro_rules | `(tactic| wtm_at "sm") => `(tactic| first | exact Same.refl _ | exact But.refl | assumption | (apply Same.tr; (· assumption); (· wtm_at "sm")) | (apply Same.b0; (· assumption); (· wtm_at "sm"); (· wtm_at "fr")) | (apply But.sa; (· assumption); (· wtm_at "sm")) | (apply But.tr; (· assumption); (· wtm_at "sm")) | (apply But.b0; (· assumption); (· wtm_at "sm"); (· wtm_at "fr")) | (apply Same.toBut; wtm_at "sm"))
local macro_rules | `(tactic| wtm_at "sc") => `(tactic| first | exact Int.zero_lt_one | (show (0 : Int) < _; omega) | (show (0 : Int) < _; decide) | exact ⟨by omega, by omega⟩ | exact .inl ⟨by omega, by omega⟩ | exact .inr ⟨by omega, by omega⟩)
local macro_rules | `(tactic| wtm_at "go1") => `(tactic| first | ((with_reducible apply g_var); (· exact rfl)) | with_reducible apply g_I0 | ((with_reducible apply g_I); (· wtm_at "sc")) | with_reducible apply g_U | with_reducible apply g_ipI | ((with_reducible apply g_addT); (· first | omega | (simp; done) | (simp; omega))) | with_reducible apply g_inT | with_reducible apply g_ninT | ((with_reducible apply g_lenT); (· omega)) | with_reducible apply g_findT1 | with_reducible apply g_str | with_reducible apply g_part | with_reducible apply g_intB | ((with_reducible apply g_ixL); (· wtm_at "sq"); (· exact rfl)) | ((with_reducible apply g_setL); (· wtm_at "lk"); (· exact rfl)) | ((with_reducible apply g_eq); (· rfl)) | ((with_reducible apply g_ne); (· rfl)))
local macro_rules | `(tactic| wtm_at "go") => `(tactic| repeat wtm_at "go1")
local macro_rules | `(tactic| wtm_at "lp") => `(tactic| skip)
local macro_rules | `(tactic| wtm_at "om") => `(tactic| first | omega | (simp; done) | (simp; omega) | (simp at *; omega))
local macro_rules | `(tactic| wtm_at "ty") => `(tactic| first | exact ty_str | exact ty_int | exact ty_bl | exact ty_non | (apply ty_lst; wtm_at "lk") | (apply ty_tup; wtm_at "lk"))
local macro_rules | `(tactic| wtm_at "kb") => `(tactic| first | exact kb_str_str | exact kb_str_int | exact kb_str_bool | exact kb_str_list | exact kb_str_tuple | exact kb_int_str | exact kb_int_int | exact kb_int_bool | exact kb_int_list | exact kb_int_tuple | exact kb_bool_str | exact kb_bool_int | exact kb_bool_bool | exact kb_bool_list | exact kb_bool_tuple | exact kb_list_str | exact kb_list_int | exact kb_list_bool | exact kb_list_list | exact kb_list_tuple | exact kb_tuple_str | exact kb_tuple_int | exact kb_tuple_bool | exact kb_tuple_list | exact kb_tuple_tuple | exact kb_NoneType_str | exact kb_NoneType_int | exact kb_NoneType_bool | exact kb_NoneType_list | exact kb_NoneType_tuple | exact kb_dict_str | exact kb_dict_int | exact kb_dict_bool | exact kb_dict_list | exact kb_dict_tuple)
local macro_rules | `(tactic| wtm_at "gx1") => `(tactic| first | ((with_reducible apply g_eqS); (· exact rfl)) | ((with_reducible apply g_neS); (· exact rfl)) | wtm_at "go1" | with_reducible apply g_min2 | with_reducible apply g_max2 | with_reducible apply g_T | with_reducible apply g_F | with_reducible apply g_NT | with_reducible apply g_NF | with_reducible apply g_nT | with_reducible apply g_nF | with_reducible apply g_RT | with_reducible apply g_RF | ((with_reducible apply g_isi); (· wtm_at "ty"); (· wtm_at "kb")) | ((with_reducible apply g_ixAU3); (· wtm_at "lk"); (· exact rfl)) | ((with_reducible apply g_ixAL3); (· wtm_at "lk"); (· exact rfl)) | ((with_reducible apply g_ixU3); (· wtm_at "lk"); (· exact rfl)) | ((with_reducible apply g_lenL3); (· wtm_at "lk")) | ((with_reducible apply g_lenU3); (· wtm_at "lk")) | ((with_reducible apply g_tyL3); (· wtm_at "lk")) | ((with_reducible apply g_lenT); (· wtm_at "pv")) | wtm_at "tr" | with_reducible apply g_ET | with_reducible apply g_EF | with_reducible apply g_EnT | with_reducible apply g_EnF)
local macro_rules | `(tactic| wtm_at "pv") => `(tactic| first | exact rfl | assumption | omega | (simp; done) | (simp; omega))
local macro_rules | `(tactic| wtm_at "tr") => `(tactic| first | ((with_reducible apply g_Td); (· wtm_at "pv")) | ((with_reducible apply g_Fd); (· wtm_at "pv")) | ((with_reducible apply g_NTd); (· wtm_at "pv")) | ((with_reducible apply g_NFd); (· wtm_at "pv")) | ((with_reducible apply g_nTd); (· wtm_at "pv")) | ((with_reducible apply g_nFd); (· wtm_at "pv")) | ((with_reducible apply g_RTd); (· wtm_at "pv")) | ((with_reducible apply g_RFd); (· wtm_at "pv")))
local macro_rules | `(tactic| wtm_at "gx") => `(tactic| repeat wtm_at "gx1")
local macro_rules | `(tactic| wtm_at "unfS") => `(tactic| (try simp only [tSeq, tNext, tAsg, tFor_eq, C8.tCut, wipe, gName, tDrop, List.set_cons_zero, List.set_cons_succ, cx_K]))
local macro_rules | `(tactic| wtm_at "rd1") => `(tactic| first | exact rd_int | exact rd_str | exact rd_bl | exact rd_non | exact rda_nil | apply rda_cons | (with_reducible apply rd_tup; (· assumption)) | (with_reducible apply rd_lst; (· assumption)) | exact rd_dic (by assumption) | exact rd_var rfl (.int _) | exact rd_var rfl (.str _) | exact rd_var rfl (.bl _) | exact rd_var rfl (by assumption) | (with_reducible apply rd_cat; (· assumption)) | (with_reducible apply rd_rep2; (· assumption)) | (with_reducible apply rd_rev; (· assumption)) | (with_reducible apply rd_to; (· assumption)) | (with_reducible apply rd_from; (· assumption)) | (with_reducible apply rd_tupOf; (· assumption)) | (with_reducible apply rd_lstOf; (· assumption)) | with_reducible apply rd_lenL | with_reducible apply rd_lenT | with_reducible apply rd_I0 | with_reducible apply rd_I | with_reducible apply rd_U | with_reducible apply rd_eqI | with_reducible apply rd_ixL | with_reducible apply rd_ixT | exact atI_hd _ _ | exact ‹atI _ _ = some _›)
local macro_rules | `(tactic| wtm_at "rdl") => `(tactic| first | decide | omega | wtm_at "sc" | (simp only [List.length_append, List.length_cons, List.length_nil, List.length_map, List.length_take, List.length_drop, List.length_reverse, cutTo]; omega))
local macro_rules | `(tactic| wtm_at "rd") => `(tactic| ((repeat' wtm_at "rd1"); (all_goals wtm_at "rdl")))
local macro_rules | `(tactic| wtm_at "nc") => `(tactic| repeat' (first | assumption | exact nca_nil | exact nc_non | exact nc_bl | exact nc_dic | exact nc_tup0 | exact nc_lst0 | (refine nc_strS (by decide) (by decide)) | (refine nc_int (by omega)) | (refine nc_big (by decide +kernel)) | refine nca_app ?_ ?_ | refine nca_cons ?_ ?_ | refine nca_take ?_ | refine nca_drop ?_ | refine nca_cutTo ?_ | refine nca_rev ?_ | refine nc_tup (by decide) ?_ | refine nc_lst (by decide) ?_ | refine nc_lst (Nat.le_trans (show _ ≤ 45 by wtm_at "rdl") (by decide)) ?_ | refine nc_tup (Nat.le_trans (show _ ≤ 45 by wtm_at "rdl") (by decide)) ?_))

section
variable {P : Program} {w : World} {K : PySem.W.Frag} {mg : Str → Option Value} {base : Heap}
/-! _law_which -/
def sp_law_which (K : PySem.W.Frag) : Sp := fun vs H Q _ => ∃ a : Addr, vs = [.ref a] ∧ H a = some (ExK (He.ga K "NoNest") a) ∧ ∀ H', Same H H' → Q (.bl true) H'
theorem ok_law_which (T : Facts K mg) : C8.Cal P w K mg base 1 "_law_which" (sp_law_which K) [] := by
  refine calD T.f_law_which sc_law_which (fun vs H Q E h => ?_) (fun f cdv A outer s H vs Q E hr h => ?_)
  · obtain ⟨a, rfl, ha, q⟩ := h; rfl
  · obtain ⟨a, rfl, ha, q⟩ := h
    refine ⟨_, (pss_cons (ps_if (pt_val (pe_callB call_isKT rfl T.b_isinstance (by decide +kernel) (pa_cons (pv 0) (pa_cons (pe_tup (pa_cons (C8.pe_gc rfl T.c_NoDeeds) (pa_cons (C8.pe_gc rfl T.c_NoNumber) (pa_cons (C8.pe_gc rfl T.c_NoRow) (pa_cons (C8.pe_gc rfl T.c_NoSign) (pa_cons (C8.pe_gc rfl T.c_NoWriting) pa_nil)))))) pa_nil))))
       (pss_one (ps_ret pe_bl))
       pss_nil)
       (pss_one (ps_ret (pe_and (pe_callB call_isK rfl T.b_isinstance (by decide +kernel) (pa_cons (pv 0) (pa_cons (C8.pe_gc rfl T.c_NoNest) pa_nil))) (pe_one (pe_callB call_isK rfl T.b_isinstance (by decide +kernel) (pa_cons (pv 0) (pa_cons (pe_bltn (v := .ty "ValueError") rfl T.b_ValueError (by decide +kernel) rfl) pa_nil)))))))), ?_⟩
    rw [st_law_which]
    wtm_at "unf"
    wtm_at "gx"
    refine g_tup (by show 5 ≤ 100000; decide) fun tp H3 ntp s3 etp => ?_
    have e3 := s3 _ _ ha
    refine g_isKT (b := false) etp (.cons (.own _) (.cons (.own _) (.cons (.own _) (.cons (.own _) (.cons (.own _) .nil))))) e3 T.z_NoNest.ec (kitAny_cons T.kk_NoNest_NoDeeds (fun _ => kitAny_cons T.kk_NoNest_NoNumber (fun _ => kitAny_cons T.kk_NoNest_NoRow (fun _ => kitAny_cons T.kk_NoNest_NoSign (fun _ => kitAny_cons T.kk_NoNest_NoWriting (fun _ => kitAny_nil) (fun h => by cases h)) (fun h => by cases h)) (fun h => by cases h)) (fun h => by cases h)) (fun h => by cases h)) ?_
    wtm_at "gx"
    refine g_isK (.own _) e3 T.z_NoNest.ec T.kk_NoNest_NoNest ?_
    wtm_at "gx"
    refine g_isK (.ty _) e3 T.z_NoNest.ec T.kv_NoNest ?_
    exact q _ s3
/-! _law_any_sign -/
def sp_law_any_sign : Sp := fun vs H Q _ => ∃ (p : Addr) (P0 : Pt), vs = [.ref p] ∧ H p = some P0.o ∧ ∀ (c : Nat) (P1 : Pt) (H' : Hp), c ≠ 10 → But p H H' → H' p = some P1.o → Q (Tx [c]) H'
theorem ok_law_any_sign (T : Facts K mg) : C8.Cal P w K mg base 3 "_law_any_sign" sp_law_any_sign [] := by
  refine calD T.f_law_any_sign sc_law_any_sign (fun vs H Q E h => ?_) (fun f cdv A outer s H vs Q E hr h => ?_)
  · obtain ⟨p, P0, rfl, hp, q⟩ := h; rfl
  · obtain ⟨p, P0, rfl, hp, q⟩ := h
    refine ⟨_, (pss_cons (ps_set (i := 1) sc_law_any_sign.nd rfl (Or.inl rfl) (pe_strS (l := [32, 33, 34, 35, 36, 38, 39, 40, 41, 42, 43, 44, 45, 46, 47, 48, 49, 50, 51, 52, 53, 54, 55, 56, 57, 58, 59, 60, 61, 62, 63, 64, 65, 66, 67, 68, 69, 70, 71, 72, 73, 74, 75, 76, 77, 78, 79, 80, 81, 82, 83, 84, 85, 86, 87, 88, 89, 90, 91, 92, 93, 94, 95, 96]) (by decide +kernel)))
       (pss_cons (ps_set (i := 1) sc_law_any_sign.nd rfl (Or.inl rfl) (pe_op op_addT (pv 1) (pe_strS (l := [97, 98, 99, 100, 101, 102, 103, 104, 105, 106, 107, 108, 109, 110, 111, 112, 113, 114, 115, 116, 117, 118, 119, 120, 121, 122, 123, 124, 125, 126]) (by decide +kernel))))
       (pss_one (ps_ret (pe_ix ix_txt (pv 1) (pe_own (ok_law_take T) hr (by omega) rfl (pa_cons (pv 0) (pa_cons (pe_callB call_lenT rfl T.b_len PySem.boot_len (pa_cons (pv 1) pa_nil)) pa_nil))) (fun _ _ => rfl)))))), ?_⟩
    rw [st_law_any_sign]
    wtm_at "unf"
    wtm_at "gx"
    obtain ⟨sg, hsg, hs10⟩ : ∃ sg : List Nat, sg = ([32, 33, 34, 35, 36, 38, 39, 40, 41, 42, 43, 44, 45, 46, 47, 48, 49, 50, 51, 52, 53, 54, 55, 56, 57, 58, 59, 60, 61, 62, 63, 64, 65, 66, 67, 68, 69, 70, 71, 72, 73, 74, 75, 76, 77, 78, 79, 80, 81, 82, 83, 84, 85, 86, 87, 88, 89, 90, 91, 92, 93, 94, 95, 96] ++ [97, 98, 99, 100, 101, 102, 103, 104, 105, 106, 107, 108, 109, 110, 111, 112, 113, 114, 115, 116, 117, 118, 119, 120, 121, 122, 123, 124, 125, 126]) ∧ ∀ c ∈ sg, c ≠ 10 := ⟨_, rfl, by decide⟩
    have hsl : sg.length = 94 := by rw [hsg]; rfl
    rw [← hsg]
    refine ⟨p, P0, _, rfl, hp, by omega, by omega, fun r P1 H1 r0 r1 b1 e1 => ?_⟩
    obtain ⟨k, rfl⟩ := Int.eq_ofNat_of_zero_le r0
    have hk : sg[k]? = some sg[k] := List.getElem?_eq_getElem (by omega)
    refine g_ixTn k (by omega) rfl hk ?_
    exact q _ P1 H1 (hs10 _ (List.getElem_mem _)) b1 e1
/-! _law_right -/
def sp_law_right : Sp := fun vs H Q _ => ∃ l : List Nat, vs = [Tx l] ∧ l.length ≤ 60000 ∧ l.count 10 ≤ 400 ∧ ∀ H', Same H H' → Q (.bl true) H'
theorem ok_law_right (T : Facts K mg) : C8.Cal P w K mg base 132 "_law_right" sp_law_right [] := by
  refine calD T.f_law_right sc_law_right (fun vs H Q E h => ?_) (fun f cdv A outer s H vs Q E hr h => ?_)
  · obtain ⟨l, rfl, hl, hc, q⟩ := h; rfl
  · obtain ⟨l, rfl, hl, hc, q⟩ := h
    refine ⟨_, (pss_cons (ps_set (i := 1) sc_law_right.nd rfl (Or.inl rfl) (pe_own (ok_law_read T) hr (by omega) rfl (pa_cons (pv 0) pa_nil)))
       (pss_cons (ps_set (i := 2) sc_law_right.nd rfl (Or.inl rfl) pe_non)
       (pss_cons (ps_set (i := 3) sc_law_right.nd rfl (Or.inl rfl) pe_non)
       (pss_cons (ps_try_keep (i := 4) rfl rfl rfl sc_law_right.nd rfl rfl ⟨rfl, by decide, .inl T.g_MendError⟩ takes0 (fun W pn xe tk po => (pss_one (ps_set (i := 3) sc_law_right.nd rfl (Or.inl rfl) (pe_ownX (okx_read_outline T) hr (by omega) rfl tk (pa_cons (pv 0) pa_nil))))) (fun a oe cls d pn _ _ => (pss_one (ps_set (i := 2) sc_law_right.nd rfl (Or.inl rfl) (pv 4)))))
       (pss_cons (ps_if (pt_cmpR op_isN (pv 1) pe_non (nomark _))
       (pss_one (ps_ret (pe_own (ok_law_which T) hr (by omega) rfl (pa_cons (pv 2) pa_nil))))
       pss_nil)
       (pss_one (ps_ret (pe_and (pe_cmpR op_isN (pv 2) pe_non (nomark _)) (pe_and (pe_own (ok_law_same T 130) hr (by omega) rfl (pa_cons (pv 3) (pa_cons (pv 1) pa_nil))) (pe_one (pe_cmpR op_eq (pe_own (ok_outline T) hr (by omega) rfl (pa_cons (pv 3) pa_nil)) (pv 0) (nomark _)))))))))))), ?_⟩
    rw [st_law_right]
    wtm_at "unf"
    wtm_at "gx"
    refine ⟨l, rfl, hl, hc, fun ns hns b xs A H1 s1 eb ht hnd hfr => ?_, fun hno H1 s1 => ?_⟩
    · obtain ⟨hj, hok, hdp, htx⟩ := outO_some hns
      have hwd := wd_txN ns hok
      wtm_at "gx"
      refine ⟨l, rfl, hl, hc, .inl ⟨ns, hns, fun b2 xs2 A2 H2 s2 eb2 ht2 hnd2 hfr2 => ?_⟩⟩
      wtm_at "gx"
      refine ⟨_, _, _, rfl, nest_has eb2 ht2 (by omega), nest_has (s2 _ _ eb) (TrIs.same s2 ht) (by omega), Nat.le_trans (nest_deepD (n := 60) (by omega)) (by decide), fun H3 s3 => ?_⟩
      wtm_at "gx"
      refine ⟨b2, xs2, ns, A2, rfl, s3 _ _ eb2, TrIs.same s3 ht2, hok, by omega, by omega, fun H4 s4 => ?_⟩
      rw [hj]
      wtm_at "gx"
      exact q _ (s1.trans (s2.trans (s3.trans s4)))
    · wtm_at "gx"
      refine ⟨l, rfl, hl, hc, .inr ⟨hno, fun H2 s2 => ?_⟩⟩
      refine ⟨true, T.z_NoNest.em, fun _ => ⟨_, rfl, rfl, fun ea nea => ?_⟩, fun h => by cases h⟩
      wtm_at "unf"
      wtm_at "gx"
      intro H3 n3 s3 e3
      wtm_at "unf"
      wtm_at "gx"
      refine ⟨ea, rfl, e3, fun H4 s4 => ?_⟩
      exact q _ (s1.trans (s2.trans (s3.trans s4)))
/-! _law_bent_line -/
def sp_law_bent_line : Sp := fun vs H Q _ => ∃ (p : Addr) (P0 : Pt) (l : List Nat), vs = [.ref p, Tx l] ∧ H p = some P0.o ∧ l.length ≤ 30000 ∧ l.count 10 ≤ 300 ∧ ∀ (l' : List Nat) (P1 : Pt) (H' : Hp), l'.length ≤ 2 * l.length + 4 → l'.count 10 ≤ l.count 10 + 2 → But p H H' → H' p = some P1.o → Q (Tx l') H'
theorem ok_law_bent_line (T : Facts K mg) : C8.Cal P w K mg base 4 "_law_bent_line" sp_law_bent_line [] := by
  refine calD T.f_law_bent_line sc_law_bent_line (fun vs H Q E h => ?_) (fun f cdv A outer s H vs Q E hr h => ?_)
  · obtain ⟨p, P0, l, rfl, hp, hl, hc, q⟩ := h; rfl
  · obtain ⟨p, P0, l, rfl, hp, hl, hc, q⟩ := h
    refine ⟨_, (pss_cons (ps_set (i := 2) sc_law_bent_line.nd rfl (Or.inl rfl) (pe_own (ok_law_take T) hr (by omega) rfl (pa_cons (pv 0) (pa_cons (pe_op op_add (pe_callB call_lenT rfl T.b_len PySem.boot_len (pa_cons (pv 1) pa_nil)) pe_int) pa_nil))))
       (pss_cons (ps_set (i := 3) sc_law_bent_line.nd rfl (Or.inl rfl) (pe_op op_cat (pe_lst (pa_cons (pe_strS (l := [10]) (by decide +kernel)) (pa_cons (pe_strS (l := [32]) (by decide +kernel)) (pa_cons (pe_strS (l := [32, 32]) (by decide +kernel)) (pa_cons (pe_strS (l := [97]) (by decide +kernel)) (pa_cons (pe_strS (l := [10, 32]) (by decide +kernel)) (pa_cons (pe_strS (l := [10, 10]) (by decide +kernel)) (pa_cons (pe_ix ix_txt (pe_strS (l := LET) (by decide +kernel)) (pe_own (ok_law_take T) hr (by omega) rfl (pa_cons (pv 0) (pa_cons pe_int pa_nil))) (fun _ _ => rfl)) pa_nil)))))))) (pe_callTy (call_listT rfl) rfl T.b_list (by decide +kernel) (pa_cons (pe_strS (l := BRK) (by decide +kernel)) pa_nil))))
       (pss_cons (ps_set (i := 4) sc_law_bent_line.nd rfl (Or.inl rfl) (pe_ix ix_list (pv 3) (pe_own (ok_law_take T) hr (by omega) rfl (pa_cons (pv 0) (pa_cons pe_int pa_nil))) (fun _ _ => rfl)))
       (C8.pss_cut (ps_if (pt_cmpR op_eq (pe_own (ok_law_take T) hr (by omega) rfl (pa_cons (pv 0) (pa_cons pe_int pa_nil))) pe_int (nomark _))
       (pss_one (ps_set (i := 4) sc_law_bent_line.nd rfl (Or.inl rfl) (pe_own (ok_law_any_sign T) hr (by omega) rfl (pa_cons (pv 0) pa_nil))))
       pss_nil)
       (pss_cons (ps_set (i := 5) sc_law_bent_line.nd rfl (Or.inl rfl) (pe_own (ok_law_take T) hr (by omega) rfl (pa_cons (pv 0) (pa_cons pe_int pa_nil))))
       (pss_cons (ps_if (pt_cmpR op_lt (pv 5) pe_int (nomark _))
       (pss_one (ps_ret (pe_op op_addT (pe_op op_addT (pe_slice sl_tx (pv 1) po_none (po_some (pv 2))) (pe_op op_mulT (pv 4) (pe_callTy call_intB rfl T.b_int (by decide +kernel) (pa_cons (pe_cmpR op_gt (pv 5) pe_int (nomark _)) pa_nil)))) (pe_slice sl_tx (pv 1) (po_some (pe_op op_add (pv 2) (pe_ix ix_list (pe_lst (pa_cons pe_int (pa_cons pe_int (pa_cons pe_int pa_nil)))) (pv 5) (fun _ _ => rfl)))) po_none))))
       pss_nil)
       (pss_cons (ps_set (i := 6) sc_law_bent_line.nd rfl (Or.inl rfl) (pe_m1 PySem.F.slot_str_split PySem.F.type_str_split mt_splitT (pv 1) (pe_strS (l := [10]) (by decide +kernel))))
       (pss_cons (ps_set (i := 7) sc_law_bent_line.nd rfl (Or.inl rfl) (pe_own (ok_law_take T) hr (by omega) rfl (pa_cons (pv 0) (pa_cons (pe_callB call_lenL rfl T.b_len PySem.boot_len (pa_cons (pv 6) pa_nil)) pa_nil))))
       (pss_cons (ps_if (pt_cmpR op_eq (pv 5) pe_int (nomark _))
       (pss_one (ps_ret (pe_m1 PySem.F.slot_str_join PySem.F.type_str_join mt_joinT (pe_strS (l := [10]) (by decide +kernel)) (pe_op op_cat (pe_slice sl_list (pv 6) po_none (po_some (pv 7))) (pe_slice sl_list (pv 6) (po_some (pe_op op_add (pv 7) pe_int)) po_none)))))
       pss_nil)
       (pss_cons (ps_if (pt_cmpR op_eq (pv 5) pe_int (nomark _))
       (pss_one (ps_ret (pe_m1 PySem.F.slot_str_join PySem.F.type_str_join mt_joinT (pe_strS (l := [10]) (by decide +kernel)) (pe_op op_cat (pe_op op_cat (pe_slice sl_list (pv 6) po_none (po_some (pv 7))) (pe_lst (pa_cons (pe_ix ix_list (pe_lst (pa_cons (pe_op op_addT (pe_strS (l := [32]) (by decide +kernel)) (pe_ix ix_list (pv 6) (pv 7) (fun _ _ => rfl))) (pa_cons (pe_slice sl_tx (pe_ix ix_list (pv 6) (pv 7) (fun _ _ => rfl)) (po_some pe_int) po_none) pa_nil))) (pe_own (ok_law_take T) hr (by omega) rfl (pa_cons (pv 0) (pa_cons pe_int pa_nil))) (fun _ _ => rfl)) pa_nil))) (pe_slice sl_list (pv 6) (po_some (pe_op op_add (pv 7) pe_int)) po_none)))))
       pss_nil)
       (pss_cons (ps_set (i := 8) sc_law_bent_line.nd rfl (Or.inl rfl) (pe_own (ok_law_take T) hr (by omega) rfl (pa_cons (pv 0) (pa_cons (pe_callB call_lenL rfl T.b_len PySem.boot_len (pa_cons (pv 6) pa_nil)) pa_nil))))
       (pss_one (ps_ret (pe_m1 PySem.F.slot_str_join PySem.F.type_str_join mt_joinT (pe_strS (l := [10]) (by decide +kernel)) (pe_op op_cat (pe_op op_cat (pe_slice sl_list (pv 6) po_none (po_some (pv 7))) (pe_lst (pa_cons (pe_ix ix_list (pv 6) (pv 8) (fun _ _ => rfl)) pa_nil))) (pe_slice sl_list (pv 6) (po_some (pv 7)) po_none)))))))))))))))), ?_⟩
    rw [st_law_bent_line]
    wtm_at "unf"
    wtm_at "gx"
    refine ⟨p, P0, _, rfl, hp, by omega, by omega, fun a P1 H1 a0 a1 b1 e1 => ?_⟩
    obtain ⟨at', rfl⟩ := Int.eq_ofNat_of_zero_le a0
    wtm_at "gx"
    refine ⟨p, P1, 26, rfl, e1, by decide, by decide, fun u P2 H2 u0 u1 b2 e2 => ?_⟩
    obtain ⟨k, rfl⟩ := Int.eq_ofNat_of_zero_le u0
    obtain ⟨c, hk, hcL⟩ : ∃ c, LET[k]? = some c ∧ c ∈ LET := by
      have : k < LET.length := by show k < 26; omega
      exact ⟨_, List.getElem?_eq_getElem this, List.getElem_mem _⟩
    refine g_ixTn k (by decide) rfl hk ?_
    refine g_lst (by show 7 ≤ 100000; decide) fun x1 H3 n3 s3 e3 => ?_
    refine g_listT (by decide) fun x2 H4 n4 s4 e4 => ?_
    refine g_cat (s4 _ _ e3) e4 (by show 7 + _ ≤ 100000; decide) fun x3 H5 n5 s5 e5 => ?_
    have e25 : H5 p = some P2.o := (s3.trans (s4.trans s5)) _ _ e2
    wtm_at "gx"
    refine ⟨p, P2, 15, rfl, e25, by decide, by decide, fun v P3 H6 v0 v1 b6 e6 => ?_⟩
    obtain ⟨m, rfl⟩ := Int.eq_ofNat_of_zero_le v0
    have hx3p : x3 ≠ p := Ne.symm (ne_new n5 ((s3.trans s4) _ _ e2))
    have b06 : But p H H6 := But.tr b6 (But.sa (s3.trans (s4.trans s5)) (But.tr b2 b1))
    have hc10 : c ≠ 10 := (by decide : ∀ c ∈ LET, c ≠ 10) c hcL
    obtain ⟨z, hz, hz1, hz2⟩ : ∃ z : List Nat, ([Tx [10], Tx [32], Tx [32, 32], Tx [97], Tx [10, 32], Tx [10, 10], Tx [c]] ++ sgV BRK)[m]? = some (Tx z) ∧ z.length ≤ 2 ∧ z.count 10 ≤ 2 := by
      have hm : m < 15 := by omega
      have : m = 0 ∨ m = 1 ∨ m = 2 ∨ m = 3 ∨ m = 4 ∨ m = 5 ∨ m = 6 ∨ m = 7 ∨ m = 8 ∨ m = 9 ∨ m = 10 ∨ m = 11 ∨ m = 12 ∨ m = 13 ∨ m = 14 := by omega
      rcases this with rfl | rfl | rfl | rfl | rfl | rfl | rfl | rfl | rfl | rfl | rfl | rfl | rfl | rfl | rfl <;> first | exact ⟨_, rfl, by decide, by decide⟩ | exact ⟨_, rfl, by simp, by simp [List.count_cons]; split <;> omega⟩
    refine g_ixLn m (sq_of (b6 _ _ hx3p e5)) rfl hz ?_
    refine ⟨fun σ' G => ∃ (z : List Nat) (P : Pt), σ' = [some (V.ref p), some (Tx l), some (V.int (at' : Nat)), some (V.ref x3), some (Tx z), none, none, none, none] ∧ z.length ≤ 2 ∧ z.count 10 ≤ 2 ∧ But p H G ∧ G p = some P.o, ?_, ?_⟩
    · wtm_at "gx"
      refine ⟨p, P3, 3, rfl, e6, by decide, by decide, fun r P4 H7 r0 r1 b7 e7 => ?_⟩
      wtm_at "gx"
      refine g_test (fun h => ?_) (fun h => ?_)
      · wtm_at "gx"
        refine ⟨p, P4, rfl, e7, fun d P5 H8 hd b8 e8 => ?_⟩
        exact ⟨[d], P5, rfl, by simp, by simp [List.count_cons]; split <;> omega, But.tr b8 (But.tr b7 b06), e8⟩
      · exact ⟨z, P4, rfl, hz1, hz2, But.tr b7 b06, e7⟩
    rintro σ' G ⟨z, P4, rfl, hz1, hz2, bG, eG⟩
    wtm_at "gx"
    refine ⟨p, P4, 6, rfl, eG, by decide, by decide, fun w' P5 H7 w0 w1 b7 e7 => ?_⟩
    wtm_at "unf"
    have b07 : But p H H7 := But.tr b7 bG
    wtm_at "gx"
    refine g_test (fun hw => ?_) (fun hw => ?_)
    · have fin : ∀ (n d : Nat), n ≤ 1 → (l.take at' ++ repT n z ++ l.drop (at' + d)).length ≤ 2 * l.length + 4 ∧ (l.take at' ++ repT n z ++ l.drop (at' + d)).count 10 ≤ l.count 10 + 2 := fun n d hn => by
        have hc := cut_put (l := l) (z := repT n z) (a := at') (b := at' + d) (by omega)
        have hr : (repT n z).length ≤ 2 ∧ (repT n z).count 10 ≤ 2 := by
          rcases (show n = 0 ∨ n = 1 by omega) with rfl | rfl
          · exact ⟨Nat.zero_le _, Nat.zero_le _⟩
          · have : repT 1 z = z := by unfold repT; simp
            rw [this]
            exact ⟨hz1, hz2⟩
        omega
      have hrl : ∀ n : Nat, n ≤ 1 → n * z.length ≤ 100000 := fun n hn => by
        rcases (show n = 0 ∨ n = 1 by omega) with rfl | rfl
        · omega
        · omega
      wtm_at "gx"
      refine g_slTo (by omega) (by omega) ?_
      wtm_at "gx"
      rw [Int.toNat_natCast]
      rcases (show w' = 0 ∨ w' = 1 ∨ w' = 2 by omega) with rfl | rfl | rfl
      · refine g_mulT (n := 0) (by decide) (hrl 0 (by decide)) ?_
        obtain ⟨f1, f2⟩ := fin 0 1 (by decide)
        refine g_addT (by have := f1; simp only [List.length_append] at this ⊢; omega) ?_
        wtm_at "gx"
        refine g_lst (by show 3 ≤ 100000; decide) fun ls H8 nls s8 els => ?_
        wtm_at "gx"
        refine g_slFrom (by omega) (by omega) ?_
        rw [show ((at' : Int) + 1).toNat = at' + 1 by omega]
        refine g_addT (by have := f1; simp only [List.length_append] at this ⊢; omega) ?_
        exact q _ P5 H8 f1 f2 (But.sa s8 b07) (s8 _ _ e7)
      · refine g_mulT (n := 1) (by decide) (hrl 1 (by decide)) ?_
        obtain ⟨f1, f2⟩ := fin 1 0 (by decide)
        refine g_addT (by have := f1; simp only [List.length_append] at this ⊢; omega) ?_
        wtm_at "gx"
        refine g_lst (by show 3 ≤ 100000; decide) fun ls H8 nls s8 els => ?_
        wtm_at "gx"
        refine g_slFrom (by omega) (by omega) ?_
        rw [show ((at' : Int) + 0).toNat = at' + 0 by omega]
        refine g_addT (by have := f1; simp only [List.length_append] at this ⊢; omega) ?_
        exact q _ P5 H8 f1 f2 (But.sa s8 b07) (s8 _ _ e7)
      · refine g_mulT (n := 1) (by decide) (hrl 1 (by decide)) ?_
        obtain ⟨f1, f2⟩ := fin 1 1 (by decide)
        refine g_addT (by have := f1; simp only [List.length_append] at this ⊢; omega) ?_
        wtm_at "gx"
        refine g_lst (by show 3 ≤ 100000; decide) fun ls H8 nls s8 els => ?_
        wtm_at "gx"
        refine g_slFrom (by omega) (by omega) ?_
        rw [show ((at' : Int) + 1).toNat = at' + 1 by omega]
        refine g_addT (by have := f1; simp only [List.length_append] at this ⊢; omega) ?_
        exact q _ P5 H8 f1 f2 (But.sa s8 b07) (s8 _ _ e7)
    · wtm_at "gx"
      refine g_splitT (by simp) (by decide) (by omega) fun la H8 nla s8 ela => ?_
      obtain ⟨lls, hlls⟩ : ∃ lls, TL.spl [10] 0 [] l = lls := ⟨_, rfl⟩
      have hcnt : lls.length = l.count 10 + 1 := by rw [← hlls, spl_cnt]
      have hJ : JL lls = l.length + 1 := by rw [← hlls, JL_spl]; simp
      have h10 : ∀ x ∈ lls, 10 ∉ x := fun x hx => spl_no10 l [] (by simp) x (by rw [hlls]; exact hx)
      rw [hlls] at ela
      wtm_at "gx"
      have fin : ∀ (ls : List (List Nat)) (P : Pt) (G : Hp) (b : Addr), JL ls ≤ 2 * l.length + 4 → (∀ x ∈ ls, 10 ∉ x) → ls.length ≤ lls.length + 1 → But p H G → G p = some P.o → G b = some (.lst (ls.map Tx)) → rJoinT K (Tx [10]) [V.ref b] G Q := fun ls P G b h1 h2 h3 h4 h5 h6 => by
        have hj := joinL_le ls
        have hk := joinL_cnt ls h2
        refine g_joinT (sq_of h6) (by
          unfold JL at h1
          show _ + ls.length * 1 ≤ 100000
          omega) ?_
        exact q _ P G (by omega) (by omega) h4 h5
      rw [List.length_map]
      refine ⟨p, P5, _, rfl, s8 _ _ e7, by omega, by omega, fun jj P6 H9 j0 j1 b9 e9 => ?_⟩
      obtain ⟨j, rfl⟩ := Int.eq_ofNat_of_zero_le j0
      have hj : j < lls.length := by omega
      have hlap : la ≠ p := Ne.symm (ne_new nla e7)
      have ela9 := b9 _ _ hlap ela
      have b09 : But p H H9 := But.tr b9 (But.sa s8 b07)
      wtm_at "gx"
      refine g_test (fun h3 => ?_) (fun h3 => ?_)
      · wtm_at "gx"
        refine g_slL (sq_of ela9) fun y1 G1 m1 t1 f1 => ?_
        rw [cut_to] at f1
        wtm_at "gx"
        refine g_slL (sq_of (t1 _ _ ela9)) fun y2 G2 m2 t2 f2 => ?_
        rw [show (j : Int) + 1 = ((j + 1 : Nat) : Int) by omega, cut_from] at f2
        refine g_cat (t2 _ _ f1) f2 (by simp only [List.length_take, List.length_drop, List.length_map]; omega) fun y3 G3 m3 t3 f3 => ?_
        refine fin (lls.take j ++ lls.drop (j + 1)) P6 G3 y3 ?_ (fun x hx => ?_) ?_ (But.sa (t1.trans (t2.trans t3)) b09) ((t1.trans (t2.trans t3)) _ _ e9) (by rw [List.map_append, List.map_take, List.map_drop]; exact f3)
        · rw [JL_app]
          have c1 := JL_cut j lls
          have c2 := JL_cut 1 (lls.drop j)
          rw [List.drop_drop] at c2
          omega
        · rcases List.mem_append.mp hx with hx | hx
          · exact h10 x (List.mem_of_mem_take hx)
          · exact h10 x (List.mem_of_mem_drop hx)
        · rw [List.length_append, List.length_take, List.length_drop]; omega
      · wtm_at "gx"
        obtain ⟨lj, hlj, hljm⟩ : ∃ x, lls[j]? = some x ∧ x ∈ lls := ⟨_, List.getElem?_eq_getElem hj, List.getElem_mem _⟩
        have hljx : (lls.map Tx)[j]? = some (Tx lj) := by rw [List.getElem?_map, hlj]; rfl
        have hljl := JL_mem hljm
        refine g_test (fun h4 => ?_) (fun h4 => ?_)
        · wtm_at "gx"
          refine g_slL (sq_of ela9) fun y1 G1 m1 t1 f1 => ?_
          rw [cut_to] at f1
          wtm_at "gx"
          refine g_ixLn j (sq_of (t1 _ _ ela9)) rfl hljx ?_
          refine g_addT (by simp only [List.length_cons, List.length_nil]; omega) ?_
          wtm_at "gx"
          refine g_ixLn j (sq_of (t1 _ _ ela9)) rfl hljx ?_
          wtm_at "gx"
          refine g_slFrom (by omega) (by omega) ?_
          rw [show (1 : Int).toNat = 1 from rfl]
          refine g_lst (by show 2 ≤ 100000; decide) fun y2 G2 m2 t2 f2 => ?_
          wtm_at "gx"
          have e92 := (t1.trans t2) _ _ e9
          refine ⟨p, P6, 2, rfl, e92, by decide, by decide, fun mm P7 G3 c0 c1 b3 e3 => ?_⟩
          obtain ⟨mn, rfl⟩ := Int.eq_ofNat_of_zero_le c0
          obtain ⟨x, hx, hxl, hx10⟩ : ∃ x, ([Tx ([32] ++ lj), Tx (lj.drop 1)] : List V)[mn]? = some (Tx x) ∧ x.length ≤ lj.length + 1 ∧ 10 ∉ x := by
            rcases (show mn = 0 ∨ mn = 1 by omega) with rfl | rfl
            · exact ⟨_, rfl, by simp, by simp [h10 lj hljm]⟩
            · exact ⟨_, rfl, by simp; omega, fun h => h10 lj hljm (List.mem_of_mem_drop h)⟩
          have hy1p : y1 ≠ p := Ne.symm (ne_new m1 e9)
          have hy2p : y2 ≠ p := Ne.symm (ne_new m2 (t1 _ _ e9))
          refine g_ixLn mn (sq_of (b3 _ _ hy2p f2)) rfl hx ?_
          refine g_lst (by show 1 ≤ 100000; decide) fun y3 G4 m3 t4 f4 => ?_
          refine g_cat (t4 _ _ (b3 _ _ hy1p (t2 _ _ f1))) f4 (by simp only [List.length_take, List.length_map, List.length_cons, List.length_nil]; omega) fun y4 G5 m4 t5 f5 => ?_
          wtm_at "gx"
          have ela5 := (t4.trans t5) _ _ (b3 _ _ hlap ((t1.trans t2) _ _ ela9))
          refine g_slL (sq_of ela5) fun y5 G6 m5 t6 f6 => ?_
          rw [show (j : Int) + 1 = ((j + 1 : Nat) : Int) by omega, cut_from] at f6
          refine g_cat (t6 _ _ f5) f6 (by simp only [List.length_append, List.length_take, List.length_drop, List.length_map, List.length_cons, List.length_nil]; omega) fun y6 G7 m6 t7 f7 => ?_
          refine fin (lls.take j ++ [x] ++ lls.drop (j + 1)) P7 G7 y6 ?_ (fun u hu => ?_) ?_ (But.sa (t4.trans (t5.trans (t6.trans t7))) (But.tr b3 (But.sa (t1.trans t2) b09))) ((t4.trans (t5.trans (t6.trans t7))) _ _ e3) (by rw [List.map_append, List.map_append, List.map_take, List.map_drop]; exact f7)
          · rw [JL_app, JL_app]
            have c1 := JL_cut j lls
            have c2 := JL_cut 1 (lls.drop j)
            rw [List.drop_drop] at c2
            have c3 : JL [x] = x.length + 1 := by unfold JL; simp
            omega
          · rcases List.mem_append.mp hu with hu | hu
            · rcases List.mem_append.mp hu with hu | hu
              · exact h10 u (List.mem_of_mem_take hu)
              · rw [List.mem_singleton.mp hu]; exact hx10
            · exact h10 u (List.mem_of_mem_drop hu)
          · rw [List.length_append, List.length_append, List.length_take, List.length_drop]; show _ + 1 + _ ≤ _; omega
        · wtm_at "gx"
          rw [List.length_map]
          refine ⟨p, P6, _, rfl, e9, by omega, by omega, fun tt P7 H10 t0 t1 b10 e10 => ?_⟩
          obtain ⟨to, rfl⟩ := Int.eq_ofNat_of_zero_le t0
          obtain ⟨lt, hlt, hltm⟩ : ∃ x, lls[to]? = some x ∧ x ∈ lls := ⟨_, List.getElem?_eq_getElem (by omega), List.getElem_mem _⟩
          have hltx : (lls.map Tx)[to]? = some (Tx lt) := by rw [List.getElem?_map, hlt]; rfl
          have hltl := JL_mem hltm
          have ela10 := b10 _ _ hlap ela9
          wtm_at "gx"
          refine g_slL (sq_of ela10) fun y1 G1 m1 t1 f1 => ?_
          rw [cut_to] at f1
          wtm_at "gx"
          refine g_ixLn to (sq_of (t1 _ _ ela10)) rfl hltx ?_
          refine g_lst (by show 1 ≤ 100000; decide) fun y3 G4 m3 t4 f4 => ?_
          refine g_cat (t4 _ _ f1) f4 (by simp only [List.length_take, List.length_map, List.length_cons, List.length_nil]; omega) fun y4 G5 m4 t5 f5 => ?_
          wtm_at "gx"
          refine g_slL (sq_of ((t1.trans (t4.trans t5)) _ _ ela10)) fun y5 G6 m5 t6 f6 => ?_
          rw [cut_from] at f6
          refine g_cat (t6 _ _ f5) f6 (by simp only [List.length_append, List.length_take, List.length_drop, List.length_map, List.length_cons, List.length_nil]; omega) fun y6 G7 m6 t7 f7 => ?_
          have t17 := t1.trans (t4.trans (t5.trans (t6.trans t7)))
          refine fin (lls.take j ++ [lt] ++ lls.drop j) P7 G7 y6 ?_ (fun u hu => ?_) ?_ (But.sa t17 (But.tr b10 b09)) (t17 _ _ e10) (by rw [List.map_append, List.map_append, List.map_take, List.map_drop]; exact f7)
          · rw [JL_app, JL_app]
            have c1 := JL_cut j lls
            have c3 : JL [lt] = lt.length + 1 := by unfold JL; simp
            omega
          · rcases List.mem_append.mp hu with hu | hu
            · rcases List.mem_append.mp hu with hu | hu
              · exact h10 u (List.mem_of_mem_take hu)
              · rw [List.mem_singleton.mp hu]; exact h10 lt hltm
            · exact h10 u (List.mem_of_mem_drop hu)
          · rw [List.length_append, List.length_append, List.length_take, List.length_drop]; show _ + 1 + _ ≤ _; omega
/-- the outline of a clean text, by size -/
theorem outl_size {l : List Nat} (hc : clean l) (hs : ∀ c ∈ l, isSg c) (hl : l.length ≤ 100) : (TL.joinL [10] (lnN (nestD l) 0)).length ≤ 6500 ∧ (TL.joinL [10] (lnN (nestD l) 0)).count 10 ≤ 100 := by
  have htx := tx_nest hc
  have hdp := nest_deep hc
  have hm := lnN_many (nestD l) 0
  rw [htx] at hm
  have hx : ∀ x ∈ lnN (nestD l) 0, x.length ≤ 61 := fun x hx => by have := lnN_len (nestD l) 0 x hx; omega
  have hsum := sum_le (n := 61) _ hx
  have h1 := joinL_le (lnN (nestD l) 0)
  have h2 := joinL_cnt (lnN (nestD l) 0) fun x hx hmem => by
    rcases lnN_sgn (nestD l) 0 (nest_ok hs) x hx 10 hmem with h | h
    · omega
    · revert h; unfold isSg; decide
  unfold JL at h1
  omega
def GL (ls : List (List Nat)) : Prop := ls.length ≤ 62 ∧ ∀ x ∈ ls, x.length ≤ 62 ∧ 10 ∉ x
theorem GL_app {a b : List (List Nat)} (ha : ∀ x ∈ a, x.length ≤ 62 ∧ 10 ∉ x) (hb : ∀ x ∈ b, x.length ≤ 62 ∧ 10 ∉ x) (h : (a ++ b).length ≤ 62) : GL (a ++ b) := ⟨h, fun x hx => (List.mem_append.mp hx).elim (ha x) (hb x)⟩
theorem blk_line {k c : Nat} (hk : k ≤ 60) (hc : c ≠ 10) : (repT k [32] ++ [c]).length ≤ 62 ∧ 10 ∉ repT k [32] ++ [c] := by
  have h := blk_len k
  unfold blk at h
  refine ⟨by rw [List.length_append, h]; show k + 1 ≤ 62; omega, fun hm => ?_⟩
  rcases List.mem_append.mp hm with hm | hm
  · have := blk_mem (k := k) hm
    omega
  · exact hc (List.mem_singleton.mp hm).symm
theorem GL_size {ls : List (List Nat)} (h : GL ls) : (TL.joinL [10] ls).length ≤ 60000 ∧ (TL.joinL [10] ls).count 10 ≤ 400 ∧ (ls.map (·.length)).sum + ls.length ≤ 10000 := by
  have h1 := joinL_le ls
  have h2 := joinL_cnt ls fun x hx => (h.2 x hx).2
  have h3 := sum_le (n := 62) ls fun x hx => (h.2 x hx).1
  have h4 := h.1
  unfold JL at h1
  omega
/-! law -/
def spLaw (K : PySem.W.Frag) : Sp := fun vs H Q _ => ∃ (a : Addr) (ns : List Int), vs = [.ref a] ∧ SqL K H a (ns.map V.int) ∧ ns.length ≤ 63 ∧ ∀ H', Q (.bl true) H'
theorem ok_law {f : Addr} {fd : FuncData} (T : Facts K mg) (F : FunD K "law" "law" (defArgs s_law) (defBody s_law) (defScope s_law) [] [] f fd) : FnOk P w K mg base C8.CX0 133 f fd ["script"] (spLaw K) := by
  refine fnD F sc_law (fun vs H Q E h => ?_) (fun cdv A outer s H vs Q E hr h => ?_)
  · obtain ⟨a, ns, rfl, hS, hlen, q⟩ := h; rfl
  · obtain ⟨a, ns, rfl, hS, hlen, q⟩ := h
    refine ⟨_, (pss_cons (ps_for PassesOwn.never rfl (pi_enum rfl T.b_enumerate (pa_cons (pe_op op_cat (pe_slice sl_list (pv 0) po_none (po_some pe_int)) (pe_lst (pa_cons (pe_callB call_lenL rfl T.b_len PySem.boot_len (pa_cons (pv 0) pa_nil)) pa_nil))) pa_nil)) (pg_tup rfl (pgs_cons (pg_name (i := 1) sc_law.nd rfl (Or.inl rfl)) (pgs_cons (pg_name (i := 2) sc_law.nd rfl (Or.inl rfl)) pgs_nil)))
       (pss_cons (ps_set (i := 3) sc_law.nd rfl (Or.inl rfl) (pe_own (ok_law_pot T) hr (by omega) rfl (pa_cons (pv 2) pa_nil)))
       (pss_cons (ps_set (i := 4) sc_law.nd rfl (Or.inl rfl) (pe_own (ok_law_outline T) hr (by omega) rfl (pa_cons (pe_own (ok_law_clean T) hr (by omega) rfl (pa_cons (pv 3) (pa_cons (pe_callB (call_min2' rfl) rfl T.b_min (by decide +kernel) (pa_cons pe_int (pa_cons (pe_own (ok_law_long T) hr (by omega) rfl (pa_cons (pv 3) (pa_cons (pv 1) pa_nil))) pa_nil))) pa_nil))) pa_nil)))
       (pss_one (ps_for PassesOwn.never rfl (pi_range1 rfl T.b_range (pa_cons pe_int pa_nil)) (pg_name (i := 5) sc_law.nd rfl (Or.inl rfl))
       (pss_cons (ps_set (i := 4) sc_law.nd rfl (Or.inl rfl) (pe_own (ok_law_bent_line T) hr (by omega) rfl (pa_cons (pv 3) (pa_cons (pv 4) pa_nil))))
       (pss_one (ps_if (pt_not (pt_val (pe_own (ok_law_right T) hr (by omega) rfl (pa_cons (pv 4) pa_nil))))
       (pss_one (ps_ret pe_bl))
       pss_nil))))))))
       (pss_cons (ps_setLc (i := 6) (own := [("k", 1)]) (by rfl) sc_law.nd rfl rfl (sw_true rfl rfl rfl (by decide +kernel)) (pi_range1 rfl T.b_range (pa_cons pe_int pa_nil)) (blkOk_by (own := [("k", 1)]) (N := N_law) (sc := defScope s_law) (by decide +kernel)) (fun _ _ _ _ _ => (pg_name (i := 1) sc_law.nd rfl (Or.inl rfl))) (fun _ _ _ _ _ => pts_nil) (fun _ _ _ _ _ => (pe_op op_addT (pe_op op_mulT (pe_strS (l := [32]) (by decide +kernel)) (pv 1)) (pe_strS (l := [40]) (by decide +kernel)))))
       (pss_cons (ps_for PassesOwn.never rfl (pi_list (pe_lst (pa_cons (pv 6) (pa_cons (pe_op op_cat (pe_slice sl_list (pv 6) po_none (po_some pe_int)) (pe_lst (pa_cons (pe_op op_addT (pe_op op_mulT (pe_strS (l := [32]) (by decide +kernel)) pe_int) (pe_strS (l := [97]) (by decide +kernel))) pa_nil))) (pa_cons (pe_op op_cat (pv 6) (pe_lst (pa_cons (pe_op op_addT (pe_op op_mulT (pe_strS (l := [32]) (by decide +kernel)) pe_int) (pe_strS (l := [97]) (by decide +kernel))) pa_nil))) (pa_cons (pe_op op_cat (pv 6) (pe_lst (pa_cons (pe_op op_addT (pe_op op_mulT (pe_strS (l := [32]) (by decide +kernel)) pe_int) (pe_strS (l := [40]) (by decide +kernel))) pa_nil))) pa_nil)))))) (pg_name (i := 7) sc_law.nd rfl (Or.inl rfl))
       (pss_one (ps_if (pt_not (pt_val (pe_own (ok_law_right T) hr (by omega) rfl (pa_cons (pe_m1 PySem.F.slot_str_join PySem.F.type_str_join mt_joinT (pe_strS (l := [10]) (by decide +kernel)) (pv 7)) pa_nil))))
       (pss_one (ps_ret pe_bl))
       pss_nil)))
       (pss_cons (ps_set (i := 8) sc_law.nd rfl (Or.inl rfl) (pe_lst (pa_cons (pe_strS (l := []) (by decide +kernel)) (pa_cons (pe_strS (l := [32]) (by decide +kernel)) (pa_cons (pe_strS (l := [10]) (by decide +kernel)) (pa_cons (pe_strS (l := [97, 10]) (by decide +kernel)) (pa_cons (pe_strS (l := [10, 97]) (by decide +kernel)) (pa_cons (pe_strS (l := [41]) (by decide +kernel)) (pa_cons (pe_strS (l := [97, 10, 32, 98]) (by decide +kernel)) (pa_cons (pe_strS (l := [40, 10, 32, 97, 10, 32, 32, 98]) (by decide +kernel)) (pa_cons (pe_strS (l := [40, 32]) (by decide +kernel)) (pa_cons (pe_strS (l := [32, 40]) (by decide +kernel)) (pa_cons (pe_strS (l := [40, 97]) (by decide +kernel)) (pa_cons (pe_strS (l := [97, 32, 97]) (by decide +kernel)) (pa_cons (pe_strS (l := [40, 10, 41]) (by decide +kernel)) (pa_cons (pe_strS (l := [97, 10, 10, 98]) (by decide +kernel)) pa_nil))))))))))))))))
       (pss_cons (ps_set (i := 8) sc_law.nd rfl (Or.inl rfl) (pe_op op_cat (pv 8) (pe_lst (pa_cons (pe_strS (l := [40, 10, 32, 32, 97]) (by decide +kernel)) (pa_cons (pe_strS (l := [93]) (by decide +kernel)) (pa_cons (pe_strS (l := [62]) (by decide +kernel)) (pa_cons (pe_strS (l := [125]) (by decide +kernel)) (pa_cons (pe_strS (l := [60, 10, 62]) (by decide +kernel)) (pa_cons (pe_strS (l := [123, 10, 32, 125]) (by decide +kernel)) (pa_cons (pe_strS (l := [97, 10, 125]) (by decide +kernel)) (pa_cons (pe_strS (l := [97, 10, 62]) (by decide +kernel)) pa_nil)))))))))))
       (pss_one (ps_ret (pe_cmpR (op_eqE hr.units) (pe_lc (own := [("text", 4)]) (by rfl) sc_law.nd (pi_list (pv 8)) (blkOk_by (own := [("text", 4)]) (N := N_law) (sc := defScope s_law) (by decide +kernel)) (fun _ _ _ _ _ => (pg_name (i := 4) sc_law.nd rfl (Or.inl rfl))) (fun _ _ _ _ _ => (pts_one (pt_not (pt_val (pe_own (ok_law_right T) hr (by omega) rfl (pa_cons (pv 4) pa_nil)))))) (fun _ _ _ _ _ => (pv 4))) (pe_lst pa_nil) (nomark _))))))))), ?_⟩
    rw [st_law]
    wtm_at "unf"
    wtm_at "gx"
    refine g_slL hS fun c1 H1 n1 s1 e1 => ?_
    obtain ⟨ms, ems, hms⟩ := cut_ints ns none (some 8)
    rw [ems] at e1
    wtm_at "gx"
    refine g_lenL (Same.seq s1 hS) ?_
    refine g_lst (by show 1 ≤ 100000; decide) fun c2 H2 n2 s2 e2 => ?_
    refine g_cat (s2 _ _ e1) e2 (by simp; omega) fun c3 H3 n3 s3 e3 => ?_
    obtain ⟨zs, ezs⟩ : ∃ zs : List Int, ms.map V.int ++ [V.int ((ns.map V.int).length : Nat)] = zs.map V.int := ⟨ms ++ [(((ns.map V.int).length : Nat) : Int)], by rw [List.map_append]; rfl⟩
    rw [ezs] at e3
    refine ⟨_, _, rfl, sq_of e3, for_enum (zs.map V.int) (fun pre σ H' => ∃ y1 y2 y3 y4 y5, σ = [some (V.ref a), y1, y2, y3, y4, y5, none, none, none] ∧ Same H3 H') ⟨_, _, _, _, _, rfl, Same.refl _⟩ (fun pre post σ H' e hv => ?_) (fun pre x post σ H0 t H1' e hv nt st et => ?_) (fun σ H' hv => ?_)⟩
    · obtain ⟨y1, y2, y3, y4, y5, rfl, sH⟩ := hv
      exact sq_of (sH _ _ e3)
    · obtain ⟨y1, y2, y3, y4, y5, rfl, sH0⟩ := hv
      obtain ⟨z, rfl⟩ : ∃ z, x = V.int z := by
        have hm : x ∈ zs.map V.int := by rw [e]; simp
        obtain ⟨z, _, hz⟩ := List.mem_map.mp hm
        exact ⟨z, hz.symm⟩
      wtm_at "unf"
      refine ⟨t, _, rfl, st_of et, rfl, _, _, rfl, _, _, rfl, rfl, ?_⟩
      wtm_at "gx"
      refine ⟨z, rfl, fun p P0 G np s e0 => ?_⟩
      wtm_at "gx"
      refine ⟨p, P0, _, rfl, e0, fun r P1 G1 hr b1 e1 => ?_⟩
      wtm_at "gx"
      obtain ⟨m, hm, hm100⟩ : ∃ m : Nat, min (100 : Int) (r : Int) = (m : Int) ∧ m ≤ 100 := ⟨min 100 r, by omega, by omega⟩
      rw [hm]
      refine ⟨p, P1, m, rfl, e1, by omega, fun l P2 G2 hls hll hcl b2 e2 => ?_⟩
      wtm_at "gx"
      refine ⟨l, rfl, by omega, hcl, fun G3 s3' => ?_⟩
      obtain ⟨k1, k2⟩ := outl_size hcl hls (by omega)
      have s03 : Same H1' G3 := (Same.b0 b2 (Same.b0 b1 s np) np).trans s3'
      have e3' := s3' _ _ e2
      wtm_at "gx"
      generalize TL.joinL [10] (lnN (nestD l) 0) = tx at k1 k2
      refine ⟨_, rfl, by decide, by decide, for_rng (fun i σ G => ∃ (tx : List Nat) (P : Pt) (y5 : Option V), σ = [some (V.ref a), some (V.int (pre.length : Nat)), some (V.int z), some (V.ref p), some (Tx tx), y5, none, none, none] ∧ G p = some P.o ∧ tx.length + 4 ≤ 6504 * 2 ^ i ∧ tx.count 10 ≤ 100 + 2 * i ∧ Same H1' G) ⟨tx, P2, _, rfl, e3', by omega, by omega, s03⟩ (fun i σ G hi hv => ?_) (fun σ G hv => ?_)⟩
      · obtain ⟨tx, P, y5, rfl, eG, h1, h2, sG⟩ := hv
        have hi3 : i < 3 := hi
        have hp2 : 2 ^ i ≤ 4 := by
          rcases (show i = 0 ∨ i = 1 ∨ i = 2 by omega) with rfl | rfl | rfl <;> decide
        wtm_at "unf"
        wtm_at "gx"
        refine ⟨p, P, tx, rfl, eG, by omega, by omega, fun tx2 P2 G2 h3 h4 b5 e5 => ?_⟩
        wtm_at "gx"
        refine ⟨tx2, rfl, by omega, by omega, fun G3 g3 => ?_⟩
        wtm_at "gx"
        exact ⟨tx2, P2, _, rfl, g3 _ _ e5, by rw [Nat.pow_succ]; omega, by omega, (Same.b0 b5 sG np).trans g3⟩
      · obtain ⟨tx, P, y5, rfl, eG, h1, h2, sG⟩ := hv
        exact ⟨_, _, _, _, _, rfl, sH0.trans (st.trans sG)⟩
    · obtain ⟨y1', y2', y3', y4', y5'', rfl, sH⟩ := hv
      wtm_at "unf"
      wtm_at "gx"
      refine ⟨_, rfl, by decide, by decide, lc_rng fun c4 H4 n4 s4 e4 => ⟨fun i G => G c4 = some (.lst (((List.range i).map fun k => repT k [32] ++ [40]).map Tx)) ∧ Same H' G, ⟨e4, s4⟩, fun i G hi hv => ?_, fun G hv => ?_⟩⟩
      · obtain ⟨e5, sG⟩ := hv
        wtm_at "unf"
        refine ⟨rfl, ?_⟩
        have hi60 : i < 60 := hi
        wtm_at "gx"
        rw [Int.zero_add]
        refine g_mulT (n := i) (by omega) (by simp; omega) ?_
        have hbl := blk_len i
        unfold blk at hbl
        refine g_addT (by rw [hbl]; show i + 1 ≤ 100000; omega) ?_
        refine lc_put e5 (by simp; omega) fun G5 b5 e6 => ⟨?_, Same.b0 b5 sG n4⟩
        rw [List.range_succ, List.map_append, List.map_append]
        exact e6
      obtain ⟨e5, sG⟩ := hv
      have hstp : ∀ x ∈ (List.range 60).map (fun k => repT k [32] ++ [40]), x.length ≤ 62 ∧ 10 ∉ x := fun x hx => by
        obtain ⟨k, hk, rfl⟩ := List.mem_map.mp hx
        rw [List.mem_range] at hk
        exact blk_line (by omega) (by decide)
      have hsl : ((List.range 60).map (fun k => repT k [32] ++ [40])).length = 60 := by rw [List.length_map, List.length_range]
      have e5 : G c4 = some (.lst (((List.range 60).map fun k => repT k [32] ++ [40]).map Tx)) := e5
      generalize (List.range 60).map (fun k => repT k [32] ++ [40]) = stp at hstp hsl e5
      have hb59 := blk_len 59
      have hb60 := blk_len 60
      unfold blk at hb59 hb60
      wtm_at "gx"
      refine g_slL (sq_of e5) fun y1 G1 m1 t1 f1 => ?_
      rw [show (59 : Int) = ((59 : Nat) : Int) from rfl, cut_to] at f1
      refine g_mulT (n := 59) (by decide) (by decide) ?_
      refine g_addT (by rw [hb59]; decide) ?_
      refine g_lst (by show 1 ≤ 100000; decide) fun y2 G2 m2 t2 f2 => ?_
      refine g_cat (t2 _ _ f1) f2 (by simp only [List.length_take, List.length_map, List.length_cons, List.length_nil]; omega) fun y3 G3 m3 t3 f3 => ?_
      wtm_at "gx"
      refine g_mulT (n := 60) (by decide) (by decide) ?_
      refine g_addT (by rw [hb60]; decide) ?_
      refine g_lst (by show 1 ≤ 100000; decide) fun y4 G4 m4 t4 f4 => ?_
      have t14 := t1.trans (t2.trans (t3.trans t4))
      refine g_cat (t14 _ _ e5) f4 (by simp only [List.length_map, List.length_cons, List.length_nil]; omega) fun y5' G5 m5 t5 f5 => ?_
      wtm_at "gx"
      refine g_mulT (n := 60) (by decide) (by decide) ?_
      refine g_addT (by rw [hb60]; decide) ?_
      refine g_lst (by show 1 ≤ 100000; decide) fun y6 G6 m6 t6 f6 => ?_
      have t16 := t14.trans (t5.trans t6)
      refine g_cat (t16 _ _ e5) f6 (by simp only [List.length_map, List.length_cons, List.length_nil]; omega) fun y7 G7 m7 t7 f7 => ?_
      refine g_lst (by show 4 ≤ 100000; decide) fun y8 G8 m8 t8 f8 => ?_
      have t18 := t16.trans (t7.trans t8)
      have hall : ∀ v ∈ [V.ref c4, V.ref y3, V.ref y5', V.ref y7], ∃ b ls, v = V.ref b ∧ G8 b = some (.lst (ls.map Tx)) ∧ GL ls := fun v hv => by
        simp only [List.mem_cons, List.not_mem_nil, or_false] at hv
        rcases hv with rfl | rfl | rfl | rfl
        · exact ⟨_, stp, rfl, t18 _ _ e5, by omega, hstp⟩
        · refine ⟨_, stp.take 59 ++ [repT 59 [32] ++ [97]], rfl, ?_, GL_app (fun x hx => hstp x (List.mem_of_mem_take hx)) (fun x hx => by rw [List.mem_singleton.mp hx]; exact blk_line (by decide) (by decide)) (by rw [List.length_append, List.length_take]; show _ + 1 ≤ 62; omega)⟩
          rw [List.map_append, List.map_take]
          exact (t4.trans (t5.trans (t6.trans (t7.trans t8)))) _ _ f3
        · refine ⟨_, stp ++ [repT 60 [32] ++ [97]], rfl, ?_, GL_app hstp (fun x hx => by rw [List.mem_singleton.mp hx]; exact blk_line (by decide) (by decide)) (by rw [List.length_append]; show _ + 1 ≤ 62; omega)⟩
          rw [List.map_append]
          exact (t6.trans (t7.trans t8)) _ _ f5
        · refine ⟨_, stp ++ [repT 60 [32] ++ [40]], rfl, ?_, GL_app hstp (fun x hx => by rw [List.mem_singleton.mp hx]; exact blk_line (by decide) (by decide)) (by rw [List.length_append]; show _ + 1 ≤ 62; omega)⟩
          rw [List.map_append]
          exact t8 _ _ f7
      refine ⟨y8, rfl, ⟨_, sq_of f8⟩, for_lst [V.ref c4, V.ref y3, V.ref y5', V.ref y7] (fun pre σ J => ∃ y7', σ = [some (V.ref a), y1', y2', y3', y4', y5'', some (V.ref c4), y7', none] ∧ Same G8 J) ⟨_, rfl, Same.refl _⟩ (fun pre post σ J e hv => ?_) (fun pre x post σ J e hv => ?_) (fun σ J hv => ?_)⟩
      · obtain ⟨y7', rfl, sJ⟩ := hv
        exact sq_of (sJ _ _ f8)
      · obtain ⟨y7', rfl, sJ⟩ := hv
        obtain ⟨b, ls, rfl, hb, hg⟩ := hall x (by rw [e]; simp)
        obtain ⟨z1, z2, z3⟩ := GL_size hg
        wtm_at "unf"
        wtm_at "gx"
        refine g_joinT (sq_of (sJ _ _ hb)) (by show _ + ls.length * 1 ≤ 100000; omega) ?_
        refine ⟨_, rfl, z1, z2, fun J2 j2 => ?_⟩
        wtm_at "gx"
        exact ⟨_, rfl, sJ.trans j2⟩
      obtain ⟨y7', rfl, sJ⟩ := hv
      wtm_at "unf"
      wtm_at "gx"
      refine g_lst (by show 14 ≤ 100000; decide) fun q1 K1 qn1 qs1 qe1 => ?_
      wtm_at "gx"
      refine g_lst (by show 8 ≤ 100000; decide) fun q2 K2 qn2 qs2 qe2 => ?_
      refine g_cat (qs2 _ _ qe1) qe2 (by show 14 + 8 ≤ 100000; decide) fun q3 K3 qn3 qs3 qe3 => ?_
      obtain ⟨lz, hlz, hz⟩ : ∃ lz : List (List Nat), ([Tx [], Tx [32], Tx [10], Tx [97, 10], Tx [10, 97], Tx [41], Tx [97, 10, 32, 98], Tx [40, 10, 32, 97, 10, 32, 32, 98], Tx [40, 32], Tx [32, 40], Tx [40, 97], Tx [97, 32, 97], Tx [40, 10, 41], Tx [97, 10, 10, 98]] ++ [Tx [40, 10, 32, 32, 97], Tx [93], Tx [62], Tx [125], Tx [60, 10, 62], Tx [123, 10, 32, 125], Tx [97, 10, 125], Tx [97, 10, 62]] : List V) = lz.map Tx ∧ ∀ z ∈ lz, z.length ≤ 20 ∧ z.count 10 ≤ 20 := ⟨[[], [32], [10], [97, 10], [10, 97], [41], [97, 10, 32, 98], [40, 10, 32, 97, 10, 32, 32, 98], [40, 32], [32, 40], [40, 97], [97, 32, 97], [40, 10, 41], [97, 10, 10, 98], [40, 10, 32, 32, 97], [93], [62], [125], [60, 10, 62], [123, 10, 32, 125], [97, 10, 125], [97, 10, 62]], rfl, by decide⟩
      rw [hlz] at qe3
      wtm_at "gx"
      refine ⟨q3, rfl, ⟨_, sq_of qe3⟩, lc_lst (lz.map Tx) fun m K4 qn4 qs4 qe4 => ⟨fun pre G => G m = some (.lst []) ∧ Same K3 G, ⟨qe4, qs4⟩, fun pre post G e hv => sq_of (hv.2 _ _ qe3), fun pre x post G e hv => ?_, fun G hv => ?_⟩⟩
      · obtain ⟨em, sG⟩ := hv
        obtain ⟨z, hzm, rfl⟩ : ∃ z, z ∈ lz ∧ Tx z = x := List.mem_map.mp (show x ∈ lz.map Tx by rw [e]; simp)
        obtain ⟨z1, z2⟩ := hz z hzm
        wtm_at "unf"
        refine ⟨rfl, ?_⟩
        wtm_at "gx"
        refine ⟨z, rfl, by omega, by omega, fun G2 g2 => ?_⟩
        wtm_at "gx"
        exact ⟨g2 _ _ em, sG.trans g2⟩
      · obtain ⟨em, sG⟩ := hv
        refine g_lst (by show 0 ≤ 100000; decide) fun q5 K5 qn5 qs5 qe5 => ?_
        refine g_eqE (sq_of (qs5 _ _ em)) qe5 ?_
        exact q _
end
end K11

set_option maxHeartbeats 0
namespace K11
open PySem PySem.Spec PyProof.Rows L2 SX Ly
open Top
theorem facts {K : PySem.W.Frag} {h : Heap} {mg : Str → Option Value} (X : K.In h) (G : h.Ns mainGlobals mg) (c : He.SaysD fa fn K) (cx : ex K = true) : Facts K mg where
  f_lines_of := by
    obtain ⟨fd, F⟩ := c.def_ 0 (d := d_lines_of) rfl
    exact ⟨_, fd, F, He.glo_ok X G (c.fact 0 (f := .glo "lines_of") rfl), FunD.bindsN F fun _ _ _ _ _ _ us hl => match us, hl with | [_, _], _ => rfl⟩
  f_outline := by
    obtain ⟨fd, F⟩ := c.def_ 1 (d := d_outline) rfl
    exact ⟨_, fd, F, He.glo_ok X G (c.fact 1 (f := .glo "outline") rfl), FunD.bindsN F fun _ _ _ _ _ _ us hl => match us, hl with | [_], _ => rfl⟩
  f_read_outline := by
    obtain ⟨fd, F⟩ := c.def_ 2 (d := d_read_outline) rfl
    exact ⟨_, fd, F, He.glo_ok X G (c.fact 2 (f := .glo "read_outline") rfl), FunD.bindsN F fun _ _ _ _ _ _ us hl => match us, hl with | [_], _ => rfl⟩
  f_law_mixed := by
    obtain ⟨fd, F⟩ := c.def_ 3 (d := d_law_mixed) rfl
    exact ⟨_, fd, F, He.glo_ok X G (c.fact 3 (f := .glo "_law_mixed") rfl), FunD.bindsN F fun _ _ _ _ _ _ us hl => match us, hl with | [_, _], _ => rfl⟩
  f_law_pot := by
    obtain ⟨fd, F⟩ := c.def_ 4 (d := d_law_pot) rfl
    exact ⟨_, fd, F, He.glo_ok X G (c.fact 4 (f := .glo "_law_pot") rfl), FunD.bindsN F fun _ _ _ _ _ _ us hl => match us, hl with | [_], _ => rfl⟩
  f_law_take := by
    obtain ⟨fd, F⟩ := c.def_ 5 (d := d_law_take) rfl
    exact ⟨_, fd, F, He.glo_ok X G (c.fact 5 (f := .glo "_law_take") rfl), FunD.bindsN F fun _ _ _ _ _ _ us hl => match us, hl with | [_, _], _ => rfl⟩
  f_law_sign := by
    obtain ⟨fd, F⟩ := c.def_ 6 (d := d_law_sign) rfl
    exact ⟨_, fd, F, He.glo_ok X G (c.fact 6 (f := .glo "_law_sign") rfl), FunD.bindsN F fun _ _ _ _ _ _ us hl => match us, hl with | [_], _ => rfl⟩
  f_law_clean := by
    obtain ⟨fd, F⟩ := c.def_ 7 (d := d_law_clean) rfl
    exact ⟨_, fd, F, He.glo_ok X G (c.fact 7 (f := .glo "_law_clean") rfl), FunD.bindsN F fun _ _ _ _ _ _ us hl => match us, hl with | [_, _], _ => rfl⟩
  f_law_bent := by
    obtain ⟨fd, F⟩ := c.def_ 8 (d := d_law_bent) rfl
    exact ⟨_, fd, F, He.glo_ok X G (c.fact 8 (f := .glo "_law_bent") rfl), FunD.bindsN F fun _ _ _ _ _ _ us hl => match us, hl with | [_, _], _ => rfl⟩
  f_law_long := by
    obtain ⟨fd, F⟩ := c.def_ 9 (d := d_law_long) rfl
    exact ⟨_, fd, F, He.glo_ok X G (c.fact 9 (f := .glo "_law_long") rfl), FunD.bindsN F fun _ _ _ _ _ _ us hl => match us, hl with | [_, _], _ => rfl⟩
  f_law_text := by
    obtain ⟨fd, F⟩ := c.def_ 10 (d := d_law_text) rfl
    exact ⟨_, fd, F, He.glo_ok X G (c.fact 10 (f := .glo "_law_text") rfl), FunD.bindsN F fun _ _ _ _ _ _ us hl => match us, hl with | [_, _], _ => rfl⟩
  f_law_outline := by
    obtain ⟨fd, F⟩ := c.def_ 11 (d := d_law_outline) rfl
    exact ⟨_, fd, F, He.glo_ok X G (c.fact 11 (f := .glo "_law_outline") rfl), FunD.bindsN F fun _ _ _ _ _ _ us hl => match us, hl with | [_], _ => rfl⟩
  f_law_which := by
    obtain ⟨fd, F⟩ := c.def_ 12 (d := d_law_which) rfl
    exact ⟨_, fd, F, He.glo_ok X G (c.fact 12 (f := .glo "_law_which") rfl), FunD.bindsN F fun _ _ _ _ _ _ us hl => match us, hl with | [_], _ => rfl⟩
  f_law_same := by
    obtain ⟨fd, F⟩ := c.def_ 13 (d := d_law_same) rfl
    exact ⟨_, fd, F, He.glo_ok X G (c.fact 13 (f := .glo "_law_same") rfl), FunD.bindsN F fun _ _ _ _ _ _ us hl => match us, hl with | [_, _], _ => rfl⟩
  f_law_read := by
    obtain ⟨fd, F⟩ := c.def_ 14 (d := d_law_read) rfl
    exact ⟨_, fd, F, He.glo_ok X G (c.fact 14 (f := .glo "_law_read") rfl), FunD.bindsN F fun _ _ _ _ _ _ us hl => match us, hl with | [_], _ => rfl⟩
  f_law_any_sign := by
    obtain ⟨fd, F⟩ := c.def_ 15 (d := d_law_any_sign) rfl
    exact ⟨_, fd, F, He.glo_ok X G (c.fact 15 (f := .glo "_law_any_sign") rfl), FunD.bindsN F fun _ _ _ _ _ _ us hl => match us, hl with | [_], _ => rfl⟩
  f_law_bent_line := by
    obtain ⟨fd, F⟩ := c.def_ 16 (d := d_law_bent_line) rfl
    exact ⟨_, fd, F, He.glo_ok X G (c.fact 16 (f := .glo "_law_bent_line") rfl), FunD.bindsN F fun _ _ _ _ _ _ us hl => match us, hl with | [_, _], _ => rfl⟩
  f_law_right := by
    obtain ⟨fd, F⟩ := c.def_ 17 (d := d_law_right) rfl
    exact ⟨_, fd, F, He.glo_ok X G (c.fact 17 (f := .glo "_law_right") rfl), FunD.bindsN F fun _ _ _ _ _ _ us hl => match us, hl with | [_], _ => rfl⟩
  c_LETTERS := by
    obtain ⟨t, e⟩ := He.str_ok X G (c.fact 19 (f := .str "LETTERS" (S LET)) rfl)
    exact ⟨_, e, ⟨t, rfl⟩⟩
  c_OPENING := by
    obtain ⟨t, e⟩ := He.str_ok X G (c.fact 20 (f := .str "OPENING" (S OPN)) rfl)
    exact ⟨_, e, ⟨t, rfl⟩⟩
  c_DEEPEST := by
    obtain ⟨t, e⟩ := He.int_ok X G (c.fact 21 (f := .int "DEEPEST" 60) rfl)
    exact ⟨_, e, ⟨t, rfl⟩⟩
  b_len := He.free_ok X G (c.fact 22 (f := .free "len") rfl)
  b_int := He.free_ok X G (c.fact 23 (f := .free "int") rfl)
  b_str := He.free_ok X G (c.fact 24 (f := .free "str") rfl)
  b_range := He.free_ok X G (c.fact 25 (f := .free "range") rfl)
  b_enumerate := He.free_ok X G (c.fact 26 (f := .free "enumerate") rfl)
  b_isinstance := He.free_ok X G (c.fact 27 (f := .free "isinstance") rfl)
  b_list := He.free_ok X G (c.fact 28 (f := .free "list") rfl)
  b_tuple := He.free_ok X G (c.fact 29 (f := .free "tuple") rfl)
  b_bool := He.free_ok X G (c.fact 30 (f := .free "bool") rfl)
  b_min := He.free_ok X G (c.fact 31 (f := .free "min") rfl)
  b_ValueError := He.free_ok X G (c.fact 32 (f := .free "ValueError") rfl)
  g_MendError := He.glo_ok X G (c.fact 33 (f := .glo "MendError") rfl)
  c_MendError := ⟨_, He.glo_ok X G (c.fact 33 (f := .glo "MendError") rfl), rfl⟩
  g_NoNest := He.glo_ok X G (c.fact 34 (f := .glo "NoNest") rfl)
  c_NoNest := ⟨_, He.glo_ok X G (c.fact 34 (f := .glo "NoNest") rfl), rfl⟩
  g_NoDeeds := He.glo_ok X G (c.fact 35 (f := .glo "NoDeeds") rfl)
  c_NoDeeds := ⟨_, He.glo_ok X G (c.fact 35 (f := .glo "NoDeeds") rfl), rfl⟩
  g_NoNumber := He.glo_ok X G (c.fact 36 (f := .glo "NoNumber") rfl)
  c_NoNumber := ⟨_, He.glo_ok X G (c.fact 36 (f := .glo "NoNumber") rfl), rfl⟩
  g_NoSign := He.glo_ok X G (c.fact 37 (f := .glo "NoSign") rfl)
  c_NoSign := ⟨_, He.glo_ok X G (c.fact 37 (f := .glo "NoSign") rfl), rfl⟩
  g_NoWriting := He.glo_ok X G (c.fact 38 (f := .glo "NoWriting") rfl)
  c_NoWriting := ⟨_, He.glo_ok X G (c.fact 38 (f := .glo "NoWriting") rfl), rfl⟩
  g_NoRow := He.glo_ok X G (c.fact 39 (f := .glo "NoRow") rfl)
  c_NoRow := ⟨_, He.glo_ok X G (c.fact 39 (f := .glo "NoRow") rfl), rfl⟩
  z_NoNest := errB_ok (all_at cx (i := 0) rfl)
  kv_NoNest := beq_iff_eq.mp (all_at cx (i := 1) rfl)
  kk_NoNest_NoNest := beq_iff_eq.mp (all_at cx (i := 2) rfl)
  kk_NoNest_NoDeeds := beq_iff_eq.mp (all_at cx (i := 3) rfl)
  kk_NoNest_NoNumber := beq_iff_eq.mp (all_at cx (i := 4) rfl)
  kk_NoNest_NoSign := beq_iff_eq.mp (all_at cx (i := 5) rfl)
  kk_NoNest_NoWriting := beq_iff_eq.mp (all_at cx (i := 6) rfl)
  kk_NoNest_NoRow := beq_iff_eq.mp (all_at cx (i := 7) rfl)
  z_NoDeeds := errB_ok (all_at cx (i := 8) rfl)
  kv_NoDeeds := beq_iff_eq.mp (all_at cx (i := 9) rfl)
  kk_NoDeeds_NoNest := beq_iff_eq.mp (all_at cx (i := 10) rfl)
  kk_NoDeeds_NoDeeds := beq_iff_eq.mp (all_at cx (i := 11) rfl)
  kk_NoDeeds_NoNumber := beq_iff_eq.mp (all_at cx (i := 12) rfl)
  kk_NoDeeds_NoSign := beq_iff_eq.mp (all_at cx (i := 13) rfl)
  kk_NoDeeds_NoWriting := beq_iff_eq.mp (all_at cx (i := 14) rfl)
  kk_NoDeeds_NoRow := beq_iff_eq.mp (all_at cx (i := 15) rfl)
  z_NoNumber := errB_ok (all_at cx (i := 16) rfl)
  kv_NoNumber := beq_iff_eq.mp (all_at cx (i := 17) rfl)
  kk_NoNumber_NoNest := beq_iff_eq.mp (all_at cx (i := 18) rfl)
  kk_NoNumber_NoDeeds := beq_iff_eq.mp (all_at cx (i := 19) rfl)
  kk_NoNumber_NoNumber := beq_iff_eq.mp (all_at cx (i := 20) rfl)
  kk_NoNumber_NoSign := beq_iff_eq.mp (all_at cx (i := 21) rfl)
  kk_NoNumber_NoWriting := beq_iff_eq.mp (all_at cx (i := 22) rfl)
  kk_NoNumber_NoRow := beq_iff_eq.mp (all_at cx (i := 23) rfl)
  z_NoSign := errB_ok (all_at cx (i := 24) rfl)
  kv_NoSign := beq_iff_eq.mp (all_at cx (i := 25) rfl)
  kk_NoSign_NoNest := beq_iff_eq.mp (all_at cx (i := 26) rfl)
  kk_NoSign_NoDeeds := beq_iff_eq.mp (all_at cx (i := 27) rfl)
  kk_NoSign_NoNumber := beq_iff_eq.mp (all_at cx (i := 28) rfl)
  kk_NoSign_NoSign := beq_iff_eq.mp (all_at cx (i := 29) rfl)
  kk_NoSign_NoWriting := beq_iff_eq.mp (all_at cx (i := 30) rfl)
  kk_NoSign_NoRow := beq_iff_eq.mp (all_at cx (i := 31) rfl)
  z_NoWriting := errB_ok (all_at cx (i := 32) rfl)
  kv_NoWriting := beq_iff_eq.mp (all_at cx (i := 33) rfl)
  kk_NoWriting_NoNest := beq_iff_eq.mp (all_at cx (i := 34) rfl)
  kk_NoWriting_NoDeeds := beq_iff_eq.mp (all_at cx (i := 35) rfl)
  kk_NoWriting_NoNumber := beq_iff_eq.mp (all_at cx (i := 36) rfl)
  kk_NoWriting_NoSign := beq_iff_eq.mp (all_at cx (i := 37) rfl)
  kk_NoWriting_NoWriting := beq_iff_eq.mp (all_at cx (i := 38) rfl)
  kk_NoWriting_NoRow := beq_iff_eq.mp (all_at cx (i := 39) rfl)
  z_NoRow := errB_ok (all_at cx (i := 40) rfl)
  kv_NoRow := beq_iff_eq.mp (all_at cx (i := 41) rfl)
  kk_NoRow_NoNest := beq_iff_eq.mp (all_at cx (i := 42) rfl)
  kk_NoRow_NoDeeds := beq_iff_eq.mp (all_at cx (i := 43) rfl)
  kk_NoRow_NoNumber := beq_iff_eq.mp (all_at cx (i := 44) rfl)
  kk_NoRow_NoSign := beq_iff_eq.mp (all_at cx (i := 45) rfl)
  kk_NoRow_NoWriting := beq_iff_eq.mp (all_at cx (i := 46) rfl)
  kk_NoRow_NoRow := beq_iff_eq.mp (all_at cx (i := 47) rfl)
theorem law_at {K : PySem.W.Frag} {h : Heap} {mg : Str → Option Value} {f : Addr} (X : K.In h) (G : h.Ns mainGlobals mg) (hfa : mg ("law" : Str) = some (.ref f)) (c : He.SaysD fa fn K) :
    ∃ fd : FuncData, (∀ (s : Shared) (v : Value), BindsTo s fd ⟨[v], []⟩ [("script", v)]) ∧ FunD K "law" "law" (defArgs s_law) (defBody s_law) (defScope s_law) [] [] f fd := by
  obtain ⟨fd, F⟩ := c.def_ 18 (d := d_law) rfl
  have e := hfa.symm.trans (He.glo_ok X G (c.fact 18 (f := .glo "law") rfl))
  cases e
  have b := FunD.bindsA (ps := ["script"]) F fun _ _ _ _ _ _ us hl => match us, hl with | [_], _ => rfl
  exact ⟨fd, fun s v => b s [v] rfl, F⟩

end K11
open PySem PySem.W PySem.Calls PyProof.Rows
theorem PySem.Challenge.cw_nestmend_k11_outlines_of_none_holds : PySem.Challenge.rw_nestmend_k11_outlines_of_none.Holds := by
  w_on; o_law
  refine HandSHeadRun.head_any (r := OpenLaw.row PySem.Challenge.rw_nestmend_k11_outlines_of_none) (q := view (OpenLaw.row PySem.Challenge.rw_nestmend_k11_outlines_of_none).prog [31]) (H := K11.Top.hk) (ob := K11.Top.ob) (M := 6000) (loose := K11.Top.loose) (d := HandSHeadRun.topDef (OpenLaw.row PySem.Challenge.rw_nestmend_k11_outlines_of_none).prog 31) (kwd := []) K11.Top.ob_eq
    (by kernel_rfl) (fun s => by kernel_rfl) K11.Top.run (by kernel_rfl) (by kernel_rfl) (by kernel_rfl) (by rfl) (by first | assumption | decide +kernel) (by decide +kernel) ⟨rfl, rfl, rfl, rfl, rfl, by decide +kernel⟩ ?hw ?hc
  case hw => w_witness2
  case hc =>
    refine L2.walk_ofE (l := PySem.Challenge.rw_nestmend_k11_outlines_of_none) (n := 63) (k := 133) (x := "script") (CX := C8.CX0) rfl (by decide) (by kernel_rfl) ⟨rfl, by decide, by decide⟩ ?F (fun _ _ _ _ z => z)
    intro w mg fa h Y G hmg0
    obtain ⟨K, KX, c, cx⟩ := Y
    have hmg : mg ("law" : PySem.Str) = some (.ref fa) := by
      have e : (HandSHeadRun.topDef (OpenLaw.row PySem.Challenge.rw_nestmend_k11_outlines_of_none).prog 31).name = ("law" : PySem.Str) := by kernel_rfl
      rw [← e]
      exact hmg0
    obtain ⟨fd, hb, F⟩ := K11.law_at KX G hmg c
    exact ⟨K, fd, K11.spLaw K, KX, hb, fun H a ns hl _ hS => ⟨a, ns, rfl, hS, hl, fun _ => rfl⟩, fun base _ _ => K11.ok_law (K11.facts KX G c cx) F⟩
